import PyProof.Rows.All
import HandS.ForMost
import HandS.TupAny
import HandS.TupMul
import HandS.Wide
import HandS.IsInst
import HandS.Deep
import HandS.Gcd
import HandS.Flow
import HandS.Conv
import HandS.DictTup
import HandS.Zip
import HandS.Defaults
import HandS.SortRule
import KE.KListLetter
import KE.KIndexOf
import PySem.Challenge.RW_outlaypact_k09_atoms
set_option Elab.async false
set_option linter.all false
set_option maxRecDepth 100000
namespace Ev
open PySem L2

inductive AV where
  | non | bl (b : Bool) | int (i : Int) | str (x : Str) | tup (xs : List AV) | fl (xs : List AV) | ref (n : Nat) | ty (n : String) | pt (xs : List Str)
  deriving Inhabited

inductive AO where
  | lst (xs : List AV) | dK (kvs : List (Key × AV)) | dT (fz : Bool) (kvs : List (List Key × AV))
  deriving Inhabited
abbrev AH := List AO
abbrev Sl := List (Option AV)

inductive Res (α : Type) where
  | ok (a : α) (A : AH) | bad
def Res.bind {α β : Type} (r : Res α) (f : α → AH → Res β) : Res β :=
  match r with | .ok a A => f a A | .bad => .bad

inductive BOp where | add | sub | mul | fdiv | mod | pow | shl | shr | band | bor deriving DecidableEq
inductive COp where | eq | ne | lt | le | gt | ge | is_ | isnot | in_ | notin deriving DecidableEq
inductive LF where | tup | tups | sum | all | any | len | max | min deriving DecidableEq
inductive Bif where | isinst | len | abs | int_ | min2 | max2 | listof | tupof | gcd | lfof (f : LF) | sortd | tupofs deriving DecidableEq
inductive Mth where | append | pop0 | pop1 | reverse | extend | get1 | get2 | index1 | split1 deriving DecidableEq
/-- a dict's method -/
def Mth.dict : Mth → Bool | .get1 => true | .get2 => true | _ => false
/-- a text's or a tuple's method, too -/
def Mth.txt : Mth → Bool | .index1 => true | .split1 => true | _ => false

mutual
inductive E where
  | var (i : Nat) | lit (v : AV) | glob (x : Str)
  | bin (o : BOp) (a b : E) | cmp (o : COp) (a b : E) | chain (o p : COp) (a b c : E)
  | neg (a : E) | not (a : E) | and (a b : E) | or (a b : E) | ite (c a b : E)
  | tup (es : List E) | ix (a b : E) | sl (a : E) (lo hi : Option E)
  | call (f : Str) (es : List E) (ds : List AV) | bif (f : Bif) (es : List E) | mth (m : Mth) (o : E) (es : List E)
  | new (l : L) | lf (f : LF) (l : L) | dnew | dct (es : List E) | lrange (a : E)
inductive L where
  | disp (es : List E) | comp (own : List Nat) (it : I) (tg : T) (cond : E) (elt : E)
inductive I where
  | v (e : E) | l (l : L) | range1 (a : E) | range2 (a b : E) | zip (a b : E)
inductive T where
  | name (i : Nat) | tup (ts : List T) | sub (o i : E)
end
inductive S where
  | asg (t : T) (e : E) | par (i j : Nat) (a b : E) | aug (i : Nat) (o : BOp) (e : E) | augs (o i : E) (op : BOp) (e : E)
  | expr (e : E) | ret (e : E) | if_ (c : E) (a b : List S) | for_ (t : T) (it : I) (b : List S) | while_ (c : E) (b : List S)
  | pass | brk | cont

/-! ### values -/
/-- truth -/
def truth (A : AH) : AV → Option Bool
  | .non => some false | .bl b => some b | .int i => some (i != 0) | .str x => if x.length ≤ sizeLine then some ((x.length : Int) != 0) else none
  | .tup xs => some (!xs.isEmpty) | .fl xs => some (!xs.isEmpty)
  | .ref n => match A[n]? with | some (.lst xs) => some (!xs.isEmpty) | some (.dK kvs) => some (!kvs.isEmpty) | _ => none
  | .ty _ => none | .pt _ => none
mutual
def pd0 : AV → Option PyData
  | .non => some .none | .bl b => some (.bool b) | .int i => some (.int i) | .str x => some (.str x)
  | .tup xs => (pds xs).map .tuple | .fl _ => none | .ref _ => none | .ty _ => none | .pt _ => none
def pds : List AV → Option (List PyData)
  | [] => some [] | x :: xs => match pd0 x, pds xs with | some d, some ds => some (d :: ds) | _, _ => none
end
def seqOf (A : AH) : AV → Option (List AV)
  | .tup xs => some xs
  | .fl xs => some xs
  | .pt xs => some (xs.map .str)
  | .ref n => match A[n]? with | some (.lst xs) => some xs | _ => none
  | _ => none
def pd (A : AH) : AV → Option PyData
  | .ref n => match A[n]? with | some (.lst xs) => (pds xs).map .list | _ => none
  | .fl xs => (pds xs).map .list
  | v => pd0 v
def aEq (A : AH) (x y : AV) : Option Bool :=
  match pd A x, pd A y with
  | some d, some e => if SeqAt.shaped d && SeqAt.shaped e then some (PyData.eqv d e) else none
  | _, _ => none
def intsOf : List AV → Option (List Int)
  | [] => some [] | .int i :: r => (intsOf r).map (i :: ·) | _ => none
def strsOf : List AV → Option (List Str)
  | [] => some [] | .str i :: r => (strsOf r).map (i :: ·) | _ => none
/-- a tuple; of texts alone: one that may be asked for its places -/
def mkT (xs : List AV) : AV := match strsOf xs with | some (z :: zs) => .pt (z :: zs) | _ => .tup xs
/-- the place of a number or a text -/
def idxA (ys : List AV) : AV → Option Nat
  | .int k => (intsOf ys).bind fun ns => if k ∈ ns then some (ns.idxOf k) else none
  | .str z => (strsOf ys).bind fun ns => if z ∈ ns then some (ns.idxOf z) else none
  | _ => none
def boolsOf : List AV → Option (List Bool)
  | [] => some [] | .bl i :: r => (boolsOf r).map (i :: ·) | _ => none
def flat : AV → Bool | .non => true | .bl _ => true | .int _ => true | .str _ => true | _ => false
def eqFl : AV → AV → Bool
  | .non, .non => true
  | .bl a, .bl b => a == b
  | .bl a, .int b => (if a then 1 else 0) == b
  | .int a, .bl b => a == (if b then 1 else 0)
  | .int a, .int b => a == b
  | .str a, .str b => a == b
  | _, _ => false
/-- a key: a tuple of ints and texts -/
def atomK : AV → Option Key
  | .int i => some (.inl i) | .str x => some (.inr x) | _ => none
def atomsK : List AV → Option (List Key)
  | [] => some [] | x :: xs => match atomK x, atomsK xs with | some k, some ks => some (k :: ks) | _, _ => none
def keyOf : AV → Option (List Key)
  | .tup xs => atomsK xs | _ => none
def aGet (kvs : List (List Key × AV)) (k : List Key) : Option AV := (kvs.find? fun kv => decide (kv.1 = k)).map (·.2)
def aPut (kvs : List (List Key × AV)) (k : List Key) (v : AV) : List (List Key × AV) :=
  if kvs.any fun kv => decide (kv.1 = k) then kvs.map fun kv => if kv.1 = k then (kv.1, v) else kv else kvs ++ [(k, v)]
/-- the pairs of a display: key, value, key, value .. -/
def pairsK : List AV → Option (List (List Key × AV))
  | [] => some [] | k :: v :: r => (match keyOf k, pairsK r with | some k, some kvs => some ((k, v) :: kvs) | _, _ => none) | _ => none
def mergeA (kvs more : List (List Key × AV)) : List (List Key × AV) := more.foldl (fun acc kv => aPut acc kv.1 kv.2) kvs
/-- the entries, if it is a dict -/
def dctOf (A : AH) : AV → Option (List (List Key × AV))
  | .ref n => (match A[n]? with | some (.dT _ kvs) => some kvs | _ => none) | _ => none
def aIn (A : AH) (x y : AV) : Option Bool :=
  match y with
  | .str z => match x with | .str i => some (!(Builtin.Str.occurrences z i 0 z.length 1).isEmpty) | _ => none
  | .tup ys => if flat x && ys.all flat then some (ys.any fun z => eqFl z x) else none
  | .pt ys => match x with | .str z => some ((ys.map AV.str).any fun y => eqFl y (.str z)) | _ => none
  | _ => match dctOf A y with
    | some kvs => (keyOf x).map fun k => (aGet kvs k).isSome
    | none => match seqOf A y, pd0 x with
    | some ys, some d => match pds ys with
      | some ds => if SeqAt.shaped d && SeqAt.shaped (.list ds) then some (ds.any fun z => PyData.eqv z d) else none
      | none => none
    | _, _ => none
def aLt (x y : AV) : Option Bool :=
  match x, y with
  | .int i, .int j => some (decide (i < j))
  | .str i, .str j => some (decide (i.cps.toList < j.cps.toList))
  | .tup xs, .tup ys => match intsOf xs, intsOf ys with | some a, some b => some (HT.lexLt a b) | _, _ => none
  | _, _ => none
def isNone : AV → Bool | .non => true | _ => false
def aCmp (o : COp) (x y : AV) (A : AH) : Option Bool :=
  match o with
  | .eq => aEq A x y
  | .ne => (aEq A x y).map (!·)
  | .lt => aLt x y
  | .gt => match x, y with | .int i, .int j => some (decide (j < i)) | _, _ => none
  | .le => match x, y with | .int i, .int j => some (decide (i ≤ j)) | _, _ => none
  | .ge => match x, y with | .int i, .int j => some (decide (j ≤ i)) | _, _ => none
  | .is_ => match y with | .non => some (isNone x) | _ => none
  | .isnot => match y with | .non => some (!isNone x) | _ => none
  | .in_ => aIn A x y
  | .notin => (aIn A x y).map (!·)
def mulOk (i j : Int) : Bool := (decide (-(2 ^ 64) < i) && decide (i < 2 ^ 64)) || (decide (-(2 ^ 64) < j) && decide (j < 2 ^ 64)) || decide (i.natAbs.log2 + j.natAbs.log2 < 1000000)
def divOk (j : Int) : Bool := (decide (0 < j) && decide (j.natAbs.log2 < 9000)) || (decide (j ≠ 0) && decide (j.natAbs < 1073741824))
def powOk (i j : Int) : Bool := decide (0 ≤ j) && decide (j ≤ 1000000) && decide (i.natAbs < 2 ^ 64)
def aBin (o : BOp) (x y : AV) (A : AH) : Res AV :=
  match o, x, y with
  | .add, .int i, .int j => .ok (.int (i + j)) A
  | .sub, .int i, .int j => .ok (.int (i - j)) A
  | .mul, .int i, .int j => if mulOk i j then .ok (.int (i * j)) A else .bad
  | .fdiv, .int i, .int j => if divOk j then .ok (.int (i.fdiv j)) A else .bad
  | .mod, .int i, .int j => if j ≠ 0 then .ok (.int (i.fmod j)) A else .bad
  | .pow, .int i, .int j => if powOk i j then .ok (.int (i ^ j.toNat)) A else .bad
  | .shl, .int i, .int j => if powOk i j then .ok (.int (i * 2 ^ j.toNat)) A else .bad
  | .shr, .int i, .int j => if 0 ≤ j then .ok (.int (i / 2 ^ j.toNat)) A else .bad
  | .band, .int i, .int j => .ok (.int (Builtin.bitAnd i j)) A
  | .bor, .int i, .int j => .ok (.int (Builtin.bitOr i j)) A
  | .add, .str i, .str j => if i.length + j.length ≤ sizeLine then .ok (.str (i ++ j)) A else .bad
  | .add, .tup xs, .tup ys => if xs.length + ys.length ≤ sizeLine then .ok (.tup (xs ++ ys)) A else .bad
  | .mul, .tup xs, .int k => if xs ≠ [] ∧ 2 ≤ k ∧ k ≤ 1000 ∧ xs.length ≤ 1000 then .ok (.tup (List.replicate k.toNat xs).flatten) A else .bad
  | .add, .ref n, .ref k => match A[n]?, A[k]? with
    | some (.lst xs), some (.lst ys) => if xs.length + ys.length ≤ sizeLine then .ok (.ref A.length) (A ++ [.lst (xs ++ ys)]) else .bad
    | _, _ => .bad
  | .mul, .ref n, .int k => match A[n]? with
    | some (.lst xs) => if -(2 ^ 63) ≤ k ∧ k < 2 ^ 63 ∧ xs.length * k.toNat ≤ sizeLine then .ok (.ref A.length) (A ++ [.lst (List.replicate k.toNat xs).flatten]) else .bad
    | _ => .bad
  | _, _, _ => .bad
/-- x op= y -/
def aAug (o : BOp) (x y : AV) (A : AH) : Res AV :=
  match o, x, y with
  | .add, .int i, .int j => .ok (.int (i + j)) A
  | .sub, .int i, .int j => .ok (.int (i - j)) A
  | .add, .str i, .str j => if i.length + j.length ≤ sizeLine then .ok (.str (i ++ j)) A else .bad
  | _, _, _ => .bad
def aIx (x y : AV) (A : AH) : Option AV :=
  match y with
  | .int i => match x with
    | .str z => if z.length ≤ sizeLine then (atI z.cps.toList i).map fun c => .str ⟨#[c]⟩ else none
    | _ => (seqOf A x).bind fun xs => atI xs i
  | .tup ks => match x with
    | .ref n => match A[n]? with | some (.dT _ kvs) => (keyOf (.tup ks)).bind fun k => aGet kvs k | _ => none
    | _ => none
  | _ => none
def cut {α : Type} (xs : List α) (lo hi : Option Int) : List α := (xs.drop (HT.sIx xs.length 0 lo)).take (HT.sIx xs.length xs.length hi - HT.sIx xs.length 0 lo)
def aSl (x : AV) (lo hi : Option Int) (A : AH) : Res AV :=
  match x with
  | .tup xs => .ok (.tup (cut xs lo hi)) A
  | .fl xs => .ok (.ref A.length) (A ++ [.lst (cut xs lo hi)])
  | .str z => if z.length ≤ sizeLine then .ok (.str (cutS z lo hi)) A else .bad
  | .ref n => match A[n]? with
    | some (.lst xs) => .ok (.ref A.length) (A ++ [.lst (cut xs lo hi)])
    | _ => .bad
  | _ => .bad
def tyName (A : AH) : AV → Option String
  | .non => some "NoneType" | .bl _ => some "bool" | .int _ => some "int" | .str _ => some "str" | .tup _ => some "tuple" | .fl _ => some "list"
  | .ref n => match A[n]? with | some (.lst _) => some "list" | some (.dK _) => some "dict" | some (.dT _ _) => some "dict" | _ => none
  | .ty _ => none | .pt _ => none
/-- isinstance for the types that stand in the programs -/
def isA (t T : String) : Option Bool :=
  if T = "int" then some (t == "int" || t == "bool") else if T = "bool" ∨ T = "str" ∨ T = "tuple" ∨ T = "list" ∨ T = "dict" then some (t == T) else none
def aLF (f : LF) (xs : List AV) (A : AH) : Res AV :=
  match f with
  | .tup => .ok (.tup xs) A
  | .tups => .ok (mkT xs) A
  | .sum => match intsOf xs with | some ns => .ok (.int ns.sum) A | none => .bad
  | .all => match boolsOf xs with | some bs => .ok (.bl (bs.all id)) A | none => .bad
  | .any => match boolsOf xs with | some bs => .ok (.bl (bs.any id)) A | none => .bad
  | .len => .ok (.int xs.length) A
  | .max => match intsOf xs with | some (n :: ns) => .ok (.int (ns.foldl (fun a b => if b > a then b else a) n)) A | _ => .bad
  | .min => match intsOf xs with | some (n :: ns) => .ok (.int (ns.foldl (fun a b => if b < a then b else a) n)) A | _ => .bad
/-- the items of a list -/
def lstOf (A : AH) : AV → Option (List AV)
  | .fl xs => some xs
  | .ref n => match A[n]? with | some (.lst xs) => some xs | _ => none
  | _ => none
/-- sorting: the stable one -/
def ins {α : Type} (lt : α → α → Bool) (y : α) : List α → List α | [] => [y] | z :: r => if lt y z then y :: z :: r else z :: ins lt y r
def isort {α : Type} (lt : α → α → Bool) (l : List α) : List α := l.foldl (fun acc x => ins lt x acc) []
def tupK : AV → Option (List Int) | .tup (x :: xs) => intsOf (x :: xs) | _ => none
def ltK (x y : AV) : Bool := HT.lexLt ((tupK x).getD []) ((tupK y).getD [])
def aBif (f : Bif) (xs : List AV) (A : AH) : Res AV :=
  match f, xs with
  | .isinst, [x, .ty T] => match tyName A x with | some t => (match isA t T with | some b => .ok (.bl b) A | none => .bad) | none => .bad
  | .len, [x] => match x with
    | .str z => if z.length ≤ sizeLine then .ok (.int z.length) A else .bad
    | _ => match seqOf A x with | some ys => .ok (.int ys.length) A | none => .bad
  | .abs, [.int i] => .ok (.int (if i < 0 then -i else i)) A
  | .int_, [.int i] => .ok (.int i) A
  | .int_, [.bl b] => .ok (.int (if b then 1 else 0)) A
  | .min2, [.int i, .int j] => .ok (.int (if j < i then j else i)) A
  | .max2, [.int i, .int j] => .ok (.int (if j > i then j else i)) A
  | .listof, [x] => match seqOf A x with | some ys => .ok (.ref A.length) (A ++ [.lst ys]) | none => .bad
  | .tupof, [x] => match x with | .pt _ => .bad | _ => match seqOf A x with | some ys => .ok (.tup ys) A | none => .bad
  | .tupofs, [x] => match x with | .pt ys => .ok (.pt ys) A | .tup ys => .ok (.tup ys) A | _ => match lstOf A x with | some ys => .ok (mkT ys) A | none => .bad
  | .gcd, [.int i, .int j] => .ok (.int ((Nat.gcd i.natAbs j.natAbs : Nat) : Int)) A
  | .lfof f, [x] => match lstOf A x with | some ys => aLF f ys A | none => .bad
  | .sortd, [x] => match lstOf A x with | some ys => if ys.all (fun y => (tupK y).isSome) then .ok (.ref A.length) (A ++ [.lst (isort ltK ys)]) else .bad | none => .bad
  | _, _ => .bad
def aMth (m : Mth) (o : AV) (xs : List AV) (A : AH) : Res AV :=
  match o with
  | .ref n => match A[n]? with
    | some (.lst ys) => match m, xs with
      | .append, [x] => if ys.length < sizeLine then .ok .non (A.set n (.lst (ys ++ [x]))) else .bad
      | .pop0, [] => match ys[ys.length - 1]? with | some y => .ok y (A.set n (.lst ys.dropLast)) | none => .bad
      | .pop1, [.int i] => if -(2 ^ 63) ≤ i ∧ i < 2 ^ 63 then (match seqIndex? i ys.length with
          | some k => (match ys[k]? with | some y => .ok y (A.set n (.lst (ys.eraseIdx k))) | none => .bad) | none => .bad) else .bad
      | .reverse, [] => .ok .non (A.set n (.lst ys.reverse))
      | .extend, [.ref k] => match A[k]? with
        | some (.lst zs) => if ys.length + zs.length ≤ sizeLine then .ok .non (A.set n (.lst (ys ++ zs))) else .bad
        | _ => .bad
      | .index1, [x] => match idxA ys x with | some i => if ys.length ≤ sizeLine then .ok (.int i) A else .bad | none => .bad
      | _, _ => .bad
    | some (.dT _ kvs) => match m, xs with
      | .get1, [k] => (match keyOf k with | some k => .ok ((aGet kvs k).getD .non) A | none => .bad)
      | .get2, [k, v] => (match keyOf k with | some k => .ok ((aGet kvs k).getD v) A | none => .bad)
      | _, _ => .bad
    | _ => .bad
  | .pt ys => match m, xs with
    | .index1, [.str z] => if z ∈ ys then .ok (.int (ys.idxOf z)) A else .bad
    | _, _ => .bad
  | .str x => match m, xs with
    | .split1, [.str y] => if (y.length == 0) = false ∧ x.length + 2 ≤ sizeLine then .ok (.ref A.length) (A ++ [.lst ((Txt.split x y).map .str)]) else .bad
    | _, _ => .bad
  | _ => .bad
/-- the receiver is of the method's type -/
def mthTy (m : Mth) (x : AV) (A : AH) : Bool := match x with | .ref n => (match A[n]? with | some (.lst _) => !m.dict && !(m == .split1) | some (.dT false _) => m.dict | _ => false) | .pt _ => m == .index1 | .str _ => m == .split1 | _ => false
/-- o[i] = v -/
def aSet (o i v : AV) (A : AH) : Option AH :=
  match o, i with
  | .ref n, .int k => match A[n]? with
    | some (.lst xs) => match ixN xs.length k with | some j => some (A.set n (.lst (xs.set j v))) | none => none
    | _ => none
  | .ref n, .tup ks => match A[n]?, keyOf (.tup ks) with
    | some (.dT false kvs), some k => if kvs.length < sizeLine then some (A.set n (.dT false (aPut kvs k v))) else none
    | _, _ => none
  | _, _ => none

/-! ### the evaluator -/
structure Cfg where
  fn : Str → List AV → AH → Res AV
  gl : Str → Option AV
  fuel : Nat

inductive Out where
  | next (σ : Sl) (A : AH) | ret (v : AV) (A : AH) | brk (σ : Sl) (A : AH) | cont (σ : Sl) (A : AH) | bad

def wipeS (σ : Sl) : List Nat → Sl
  | [] => σ
  | i :: r => (wipeS σ r).set i none

inductive Itm where
  | val (xs : List AV) | obj (n : Nat) (xs : List AV) | two (l r : Itm) | keys (n : Nat) (own : Bool) (kvs : List (List Key × AV))
def unK : Key → AV | .inl i => .int i | .inr x => .str x
def Itm.items : Itm → List AV | .val xs => xs | .obj _ xs => xs | .two l r => List.zipWith (fun x y => AV.tup [x, y]) l.items r.items | .keys _ _ kvs => kvs.map fun kv => AV.tup (kv.1.map unK)
/-- the list is still what it was -/
noncomputable def Itm.chk : Itm → AH → Bool
  | .val _, _ => true
  | .obj n xs, A => @decide (A[n]? = some (.lst xs)) (Classical.propDecidable _)
  | .two l r, A => l.chk A && r.chk A
  | .keys n _ kvs, A => @decide (A[n]? = some (.dT true kvs)) (Classical.propDecidable _)
/-- behind the walk: a dict that was frozen for it may be written again -/
def Itm.fin : Itm → AH → AH
  | .keys n true kvs, A => A.set n (.dT false kvs)
  | _, A => A
/-- what zip walks: a tuple (true), a list (false) -/
def side (A : AH) : AV → Option (Itm × Bool)
  | .tup xs => some (.val xs, true)
  | .fl xs => some (.val xs, false)
  | .ref n => match A[n]? with | some (.lst xs) => some (.obj n xs, false) | _ => none
  | _ => none
def tru (x : AV) (A : AH) : Res Bool := match truth A x with | some k => .ok k A | none => .bad
/-- the turns of a comprehension -/
def compGo (chk : AH → Bool) (tg : AV → AH → Res Sl) (q : Sl → AH → Res Bool) (elt : Sl → AH → Res AV) : List AV → List AV → AH → Res (List AV)
  | [], acc, A => if chk A then .ok acc A else .bad
  | x :: r, acc, A => if chk A then (tg x A).bind fun σ2 A => (q σ2 A).bind fun k A =>
      if k then (elt σ2 A).bind fun y A => if acc.length < sizeLine then compGo chk tg q elt r (acc ++ [y]) A else .bad else compGo chk tg q elt r acc A else .bad
variable (c : Cfg)
mutual
noncomputable def evE : E → Sl → AH → Res AV
  | .var i, σ, A => match σ[i]? with | some (some v) => .ok v A | _ => .bad
  | .lit v, _, A => .ok v A
  | .glob x, _, A => match c.gl x with | some v => .ok v A | none => .bad
  | .bin o a b, σ, A => (evE a σ A).bind fun x A => (evE b σ A).bind fun y A => aBin o x y A
  | .cmp o a b, σ, A => (evE a σ A).bind fun x A => (evE b σ A).bind fun y A => match aCmp o x y A with | some k => .ok (.bl k) A | none => .bad
  | .chain o p a b d, σ, A => (evE a σ A).bind fun x A => (evE b σ A).bind fun y A => match aCmp o x y A with
    | some true => (evE d σ A).bind fun z A => (match aCmp p y z A with | some k => .ok (.bl k) A | none => .bad)
    | some false => .ok (.bl false) A
    | none => .bad
  | .neg a, σ, A => (evE a σ A).bind fun x A => match x with | .int i => .ok (.int (-i)) A | _ => .bad
  | .not a, σ, A => (evE a σ A).bind fun x A => match truth A x with | some k => .ok (.bl (!k)) A | none => .bad
  | .and a b, σ, A => (evE a σ A).bind fun x A => match truth A x with | some true => evE b σ A | some false => .ok x A | none => .bad
  | .or a b, σ, A => (evE a σ A).bind fun x A => match truth A x with | some true => .ok x A | some false => evE b σ A | none => .bad
  | .ite q a b, σ, A => ((evE q σ A).bind tru).bind fun k A => if k then evE a σ A else evE b σ A
  | .tup es, σ, A => (evEs es σ A).bind fun xs A => if xs.length ≤ sizeLine then .ok (.tup xs) A else .bad
  | .ix a b, σ, A => (evE a σ A).bind fun x A => (evE b σ A).bind fun y A => match aIx x y A with | some v => .ok v A | none => .bad
  | .sl a lo hi, σ, A => (evE a σ A).bind fun x A => (evO lo σ A).bind fun l A => (evO hi σ A).bind fun h A => aSl x l h A
  | .call f es ds, σ, A => (evEs es σ A).bind fun xs A => c.fn f (xs ++ ds) A
  | .bif f es, σ, A => (evEs es σ A).bind fun xs A => aBif f xs A
  | .mth m o es, σ, A => (evE o σ A).bind fun x A => if mthTy m x A then (evEs es σ A).bind fun xs A => aMth m x xs A else .bad
  | .new l, σ, A => (evL l σ A).bind fun xs A => .ok (.ref A.length) (A ++ [.lst xs])
  | .lf f l, σ, A => (evL l σ A).bind fun xs A => aLF f xs A
  | .dnew, _, A => .ok (.ref A.length) (A ++ [.dT false []])
  | .lrange a, σ, A => (evE a σ A).bind fun x A => match x with | .int j => if -(2 ^ 62) ≤ j ∧ j ≤ 1000000 then .ok (.ref A.length) (A ++ [.lst ((List.range j.toNat).map fun (k : Nat) => AV.int k)]) else .bad | _ => .bad
  | .dct es, σ, A => (evEs es σ A).bind fun xs A => match pairsK xs with | some kvs => if kvs.length ≤ 15 then .ok (.ref A.length) (A ++ [.dT false (mergeA [] kvs)]) else .bad | none => .bad
termination_by structural t _ _ => t
noncomputable def evEs : List E → Sl → AH → Res (List AV)
  | [], _, A => .ok [] A
  | e :: es, σ, A => (evE e σ A).bind fun x A => (evEs es σ A).bind fun xs A => .ok (x :: xs) A
termination_by structural t _ _ => t
noncomputable def evO : Option E → Sl → AH → Res (Option Int)
  | none, _, A => .ok none A
  | some e, σ, A => (evE e σ A).bind fun x A => match x with | .int i => .ok (some i) A | _ => .bad
termination_by structural t _ _ => t
noncomputable def evL : L → Sl → AH → Res (List AV)
  | .disp es, σ, A => (evEs es σ A).bind fun xs A => if xs.length ≤ sizeLine then .ok xs A else .bad
  | .comp own it tg q elt, σ, A => (evI it σ A).bind fun t A =>
      compGo t.chk (fun x A => evTg tg x (wipeS σ own) A) (fun σ A => (evE q σ A).bind tru) (fun σ A => evE elt σ A) t.items [] A
termination_by structural t _ _ => t
noncomputable def evI : I → Sl → AH → Res Itm
  | .v e, σ, A => (evE e σ A).bind fun x A => match x with
    | .tup xs => .ok (.val xs) A
    | .fl xs => .ok (.val xs) A
    | .pt xs => .ok (.val (xs.map .str)) A
    | .ref n => (match A[n]? with | some (.lst xs) => .ok (.obj n xs) A | some (.dT false kvs) => .ok (.keys n true kvs) (A.set n (.dT true kvs)) | some (.dT true kvs) => .ok (.keys n false kvs) A | _ => .bad)
    | _ => .bad
  | .l l, σ, A => (evL l σ A).bind fun xs A => .ok (.val xs) A
  | .range1 a, σ, A => (evE a σ A).bind fun x A => match x with
    | .int j => if -(2 ^ 62) ≤ j ∧ j < 2 ^ 62 then .ok (.val ((List.range j.toNat).map fun (k : Nat) => AV.int k)) A else .bad
    | _ => .bad
  | .range2 a b, σ, A => (evE a σ A).bind fun x A => (evE b σ A).bind fun y A => match x, y with
    | .int i, .int j => if -(2 ^ 62) ≤ i ∧ i < 2 ^ 62 ∧ -(2 ^ 62) ≤ j ∧ j < 2 ^ 62 then .ok (.val ((List.range (j - i).toNat).map fun (k : Nat) => AV.int (i + k))) A else .bad
    | _, _ => .bad
  | .zip a b, σ, A => (evE a σ A).bind fun x A => (evE b σ A).bind fun y A => match side A x, side A y with
    | some (l, k), some (r, k') => if k = k' then .ok (.two l r) A else .bad
    | _, _ => .bad
termination_by structural t _ _ => t
noncomputable def evTg : T → AV → Sl → AH → Res Sl
  | .name i, v, σ, A => .ok (σ.set i (some v)) A
  | .tup ts, v, σ, A => match v with | .tup xs => if xs.length = ts.length then evTs ts xs σ A else .bad | _ => .bad
  | .sub o i, v, σ, A => (evE o σ A).bind fun x A => (evE i σ A).bind fun y A => match aSet x y v A with | some A' => .ok σ A' | none => .bad
termination_by structural t _ _ _ => t
noncomputable def evTs : List T → List AV → Sl → AH → Res Sl
  | [], [], σ, A => .ok σ A
  | t :: ts, x :: xs, σ, A => (evTg t x σ A).bind fun σ A => evTs ts xs σ A
  | _, _, _, _ => .bad
termination_by structural t _ _ _ => t
end

/-- a test -/
noncomputable def evT (e : E) (σ : Sl) (A : AH) : Res Bool := (evE c e σ A).bind tru
def Out.seq (o : Out) (f : Sl → AH → Out) : Out := match o with | .next σ A => f σ A | .ret v A => .ret v A | .brk σ A => .brk σ A | .cont σ A => .cont σ A | .bad => .bad
def Res.out {α : Type} (r : Res α) (f : α → AH → Out) : Out := match r with | .ok a A => f a A | .bad => .bad
/-- behind a loop's body -/
def Out.turn (o : Out) (f : Sl → AH → Out) : Out := match o with | .next σ A => f σ A | .ret v A => .ret v A | .brk σ A => .next σ A | .cont σ A => f σ A | .bad => .bad
def forGo (chk : AH → Bool) (tg : AV → Sl → AH → Res Sl) (body : Sl → AH → Out) : List AV → Sl → AH → Out
  | [], σ, A => if chk A then .next σ A else .bad
  | x :: r, σ, A => if chk A then (tg x σ A).out fun σ A => (body σ A).turn fun σ A => forGo chk tg body r σ A else .bad
def whGo (q : Sl → AH → Res Bool) (body : Sl → AH → Out) : Nat → Sl → AH → Out
  | 0, _, _ => .bad
  | n + 1, σ, A => (q σ A).out fun k A => if k then (body σ A).turn fun σ A => whGo q body n σ A else .next σ A
/-- behind a loop -/
def Out.behind (o : Out) (t : Itm) : Out := match o with | .next σ A => .next σ (t.fin A) | .ret v A => .ret v A | .brk σ A => .brk σ A | .cont σ A => .cont σ A | .bad => .bad
mutual
noncomputable def evS : S → Sl → AH → Out
  | .asg t e, σ, A => (evE c e σ A).out fun v A => (evTg c t v σ A).out fun σ A => .next σ A
  | .par i j a b, σ, A => (evE c a σ A).out fun x A => (evE c b σ A).out fun y A => .next ((σ.set i (some x)).set j (some y)) A
  | .aug i o e, σ, A => match σ[i]? with
    | some (some x) => (evE c e σ A).out fun y A => (aAug o x y A).out fun z A => .next (σ.set i (some z)) A
    | _ => .bad
  | .augs o i op e, σ, A => (evE c o σ A).out fun x A => (evE c i σ A).out fun y A => if mthTy .append x A then (match aIx x y A with
    | some v => (evE c e σ A).out fun w A => (aAug op v w A).out fun z A => match aSet x y z A with | some A' => .next σ A' | none => .bad
    | none => .bad) else .bad
  | .expr e, σ, A => (evE c e σ A).out fun _ A => .next σ A
  | .ret e, σ, A => (evE c e σ A).out fun v A => .ret v A
  | .if_ q a b, σ, A => (evT c q σ A).out fun k A => if k then evSs a σ A else evSs b σ A
  | .for_ t it b, σ, A => (evI c it σ A).out fun m A => (forGo m.chk (fun x σ A => evTg c t x σ A) (fun σ A => evSs b σ A) m.items σ A).behind m
  | .while_ q b, σ, A => whGo (fun σ A => evT c q σ A) (fun σ A => evSs b σ A) c.fuel σ A
  | .pass, σ, A => .next σ A
  | .brk, σ, A => .brk σ A
  | .cont, σ, A => .cont σ A
noncomputable def evSs : List S → Sl → AH → Out
  | [], σ, A => .next σ A
  | s :: r, σ, A => (evS s σ A).seq fun σ A => evSs r σ A
end
structure FnD where
  np : Nat
  ns : Nat
  body : List S
noncomputable def run (P : Str → Option FnD) (gl : Str → Option AV) (fuel : Nat) : Nat → Str → List AV → AH → Res AV
  | 0, _, _, _ => .bad
  | k + 1, f, xs, A => match P f with
    | some d => if xs.length = d.np then (match evSs ⟨run P gl fuel k, gl, fuel⟩ d.body (xs.map some ++ List.replicate (d.ns - d.np) none) A with
      | .next _ A => .ok .non A | .ret v A => .ok v A | _ => .bad) else .bad
    | none => .bad
example (v σ A) : evE c (.lit v) σ A = .ok v A := rfl
example (a b σ A) : evE c (.bin .add a b) σ A = (evE c a σ A).bind fun x A => (evE c b σ A).bind fun y A => aBin .add x y A := rfl
example (a b σ A) : evS c (.if_ a b []) σ A = (evT c a σ A).out fun k A => if k then evSs c b σ A else .next σ A := rfl
end Ev


set_option linter.all false
set_option maxRecDepth 100000
namespace Ev
open PySem PySem.Spec PyProof.Rows L2

/-! ### the abstract state and the hand layer's -/
/-- a list that nobody writes -/
def SqF (K : PySem.W.Frag) (H : Hp) (a : Addr) (xs : List V) : Prop := (∃ o, H a = some (.frz o (.lst xs))) ∨
  ∃ (o : Obj) (its : Array Value) (n : Nat), K.lookup a = some o ∧ o.cls = .type "list" ∧ o.dict = none ∧ o.data = .seq its n ∧ its.size ≤ sizeLine ∧ Vals xs its.toList
theorem SqF.l {K : PySem.W.Frag} {H : Hp} {a : Addr} {xs : List V} (h : SqF K H a xs) : SqL K H a xs := h.elim (fun ⟨o, e⟩ => .inl (.inr ⟨o, e⟩)) .inr
mutual
inductive RV (K : PySem.W.Frag) (H : Hp) (m : List Addr) : AV → V → Prop
  | non : RV K H m .non .non
  | bl (b : Bool) : RV K H m (.bl b) (.bl b)
  | int (i : Int) : RV K H m (.int i) (.int i)
  | str (x : Str) : RV K H m (.str x) (.str x)
  | ty (n : String) : RV K H m (.ty n) (.ty n)
  | tup {xs : List AV} {a : Addr} {ys : List V} (h : H a = some (.tup ys)) (hs : RVs K H m xs ys) : RV K H m (.tup xs) (.ref a)
  | fl {xs : List AV} {a : Addr} {ys : List V} (h : SqF K H a ys) (hs : RVs K H m xs ys) : RV K H m (.fl xs) (.ref a)
  | ref {n : Nat} {a : Addr} (h : m[n]? = some a) : RV K H m (.ref n) (.ref a)
  | pt {xs : List Str} {a : Addr} {o : Obj} (h : H a = some (.frz o (.tup (xs.map V.str)))) (hd : o.dict = none) : RV K H m (.pt xs) (.ref a)
inductive RVs (K : PySem.W.Frag) (H : Hp) (m : List Addr) : List AV → List V → Prop
  | nil : RVs K H m [] []
  | cons {x : AV} {y : V} {xs : List AV} {ys : List V} (h : RV K H m x y) (hs : RVs K H m xs ys) : RVs K H m (x :: xs) (y :: ys)
end
/-- what stands at the address of an abstract object -/
def RO (K : PySem.W.Frag) (H : Hp) (m : List Addr) (a : Addr) : AO → Prop
  | .lst xs => ∃ ys, H a = some (.lst ys) ∧ RVs K H m xs ys
  | .dK kvs => ∃ ws, H a = some (.dK ws) ∧ Paired (fun (p : Key × AV) (q : Key × V) => p.1 = q.1 ∧ RV K H m p.2 q.2) kvs ws
  | .dT fz kvs => ∃ ws, ((fz = false ∧ H a = some (.dT ws)) ∨ (fz = true ∧ ∃ o, H a = some (.frz o (.dT ws)))) ∧ Paired (fun (p : List Key × AV) (q : List Key × V) => p.1 = q.1 ∧ RV K H m p.2 q.2) kvs ws
structure RelH (K : PySem.W.Frag) (m : List Addr) (A : AH) (H : Hp) : Prop where
  len : m.length = A.length
  nd : m.Nodup
  at_ : ∀ (n : Nat) (a : Addr) (o : AO), m[n]? = some a → A[n]? = some o → RO K H m a o
def RSl (K : PySem.W.Frag) (H : Hp) (m : List Addr) (aσ : Sl) (σ : L2.St) : Prop :=
  aσ.length = σ.length ∧ ∀ (i : Nat) (v : AV), aσ[i]? = some (some v) → ∃ x, σ[i]? = some (some x) ∧ RV K H m v x
/-- a run from (m, H) to (m', H'): the objects of m alone are changed -/
structure Tr (m : List Addr) (H : Hp) (m' : List Addr) (H' : Hp) : Prop where
  pre : m <+: m'
  new : ∀ b ∈ m', b ∉ m → H b = none
  keep : ∀ b o, H b = some o → b ∉ m → H' b = some o
  tups : ∀ b o, H b = some o → (∀ xs, o = .tup xs → H' b = some o) ∧ (∀ q u, o = .frz q u → H' b = some o)

section
variable {K : PySem.W.Frag} {m m' m'' : List Addr} {A A' : AH} {H H' H'' : Hp} {a b : Addr}
theorem Tr.refl : Tr m H m H := ⟨List.prefix_refl _, fun b h n => absurd h n, fun _ _ h _ => h, fun b o h => ⟨fun _ _ => h, fun _ _ _ => h⟩⟩
theorem Tr.trans (t : Tr m H m' H') (u : Tr m' H' m'' H'') : Tr m H m'' H'' where
  pre := t.pre.trans u.pre
  new := fun b h n => by
    by_cases hb : b ∈ m'
    · exact t.new b hb n
    · have e := u.new b h hb
      cases q : H b with
      | none => rfl
      | some o =>
        have := t.keep b o q n
        rw [e] at this; cases this
  keep := fun b o h n => by
    have h1 := t.keep b o h n
    refine u.keep b o h1 fun hb => ?_
    have := t.new b hb n
    rw [h] at this; cases this
  tups := fun b o h => ⟨fun xs e => (u.tups b o ((t.tups b o h).1 xs e)).1 xs e, fun q v e => (u.tups b o ((t.tups b o h).2 q v e)).2 q v e⟩
theorem Tr.getM (t : Tr m H m' H') {n : Nat} (h : m[n]? = some a) : m'[n]? = some a := by
  obtain ⟨r, e⟩ := t.pre
  subst e
  rw [List.getElem?_append_left (List.getElem?_eq_some_iff.mp h).1]
  exact h
theorem Tr.rd (t : Tr m H m' H') {xs : List V} (h : Rd H a (.tup xs)) : Rd H' a (.tup xs) := by
  rcases h with h | ⟨o, h⟩
  · exact .inl ((t.tups a _ h).1 xs rfl)
  · exact .inr ⟨o, (t.tups a _ h).2 o _ rfl⟩
theorem Tr.sqT (t : Tr m H m' H') {xs : List V} (h : SqT K H a xs) : SqT K H' a xs := by
  rcases h with h | h
  · exact .inl (t.rd h)
  · exact .inr h
/-- what a value's description leans on stays -/
structure Stay (K : PySem.W.Frag) (m : List Addr) (H : Hp) (m' : List Addr) (H' : Hp) : Prop where
  g : ∀ (n : Nat) (a : Addr), m[n]? = some a → m'[n]? = some a
  s : ∀ (a : Addr) (xs : List V), H a = some (.tup xs) → H' a = some (.tup xs)
  f : ∀ (a : Addr) (xs : List V), SqF K H a xs → SqF K H' a xs
  z : ∀ (a : Addr) (o : Obj) (xs : List V), H a = some (.frz o (.tup xs)) → H' a = some (.frz o (.tup xs))
theorem Tr.sqF (t : Tr m H m' H') {xs : List V} (h : SqF K H a xs) : SqF K H' a xs := h.elim (fun ⟨o, e⟩ => .inl ⟨o, (t.tups a _ e).2 o _ rfl⟩) .inr
theorem Tr.stay (t : Tr m H m' H') : Stay K m H m' H' := ⟨fun _ _ h => t.getM h, fun a xs h => (t.tups a _ h).1 xs rfl, fun _ _ h => t.sqF h, fun a o xs h => (t.tups a _ h).2 o _ rfl⟩
mutual
theorem RV.mono0 (t : Stay K m H m' H') : ∀ {x : AV} {y : V}, RV K H m x y → RV K H' m' x y
  | _, _, .non => .non
  | _, _, .bl b => .bl b
  | _, _, .int i => .int i
  | _, _, .str x => .str x
  | _, _, .ty n => .ty n
  | _, _, .tup h hs => .tup (t.s _ _ h) (RVs.mono0 t hs)
  | _, _, .fl h hs => .fl (t.f _ _ h) (RVs.mono0 t hs)
  | _, _, .ref h => .ref (t.g _ _ h)
  | _, _, .pt h hd => .pt (t.z _ _ _ h) hd
theorem RVs.mono0 (t : Stay K m H m' H') : ∀ {x : List AV} {y : List V}, RVs K H m x y → RVs K H' m' x y
  | _, _, .nil => .nil
  | _, _, .cons h hs => .cons (RV.mono0 t h) (RVs.mono0 t hs)
end
theorem RV.mono {x : AV} {y : V} (r : RV K H m x y) (t : Tr m H m' H') : RV K H' m' x y := RV.mono0 t.stay r
theorem RVs.mono {x : List AV} {y : List V} (r : RVs K H m x y) (t : Tr m H m' H') : RVs K H' m' x y := RVs.mono0 t.stay r
theorem RVs.length : ∀ {xs : List AV} {ys : List V}, RVs K H m xs ys → xs.length = ys.length
  | _, _, .nil => rfl
  | _, _, .cons _ hs => by rw [List.length_cons, List.length_cons, hs.length]
theorem RVs.get : ∀ {xs : List AV} {ys : List V} {i : Nat} {x : AV}, RVs K H m xs ys → xs[i]? = some x → ∃ y, ys[i]? = some y ∧ RV K H m x y
  | _, _, _, _, .nil, e => by simp at e
  | _, _, 0, _, .cons h _, e => by simp at e; subst e; exact ⟨_, rfl, h⟩
  | _, _, i + 1, _, .cons _ hs, e => by
    obtain ⟨y, h1, h2⟩ := hs.get (i := i) (by simpa using e)
    exact ⟨y, by simpa using h1, h2⟩
theorem RVs.append : ∀ {xs us : List AV} {ys ws : List V}, RVs K H m xs ys → RVs K H m us ws → RVs K H m (xs ++ us) (ys ++ ws)
  | _, _, _, _, .nil, s => s
  | _, _, _, _, .cons h hs, s => .cons h (hs.append s)
theorem RVs.one {x : AV} {y : V} (h : RV K H m x y) : RVs K H m [x] [y] := .cons h .nil
theorem RVs.take : ∀ {xs : List AV} {ys : List V} (n : Nat), RVs K H m xs ys → RVs K H m (xs.take n) (ys.take n)
  | _, _, 0, _ => .nil
  | _, _, _ + 1, .nil => .nil
  | _, _, n + 1, .cons h hs => .cons h (hs.take n)
theorem RVs.drop : ∀ {xs : List AV} {ys : List V} (n : Nat), RVs K H m xs ys → RVs K H m (xs.drop n) (ys.drop n)
  | _, _, 0, h => h
  | _, _, _ + 1, .nil => .nil
  | _, _, n + 1, .cons _ hs => hs.drop n
theorem RVs.set {x : AV} {y : V} (h : RV K H m x y) : ∀ {xs : List AV} {ys : List V} (n : Nat), RVs K H m xs ys → RVs K H m (xs.set n x) (ys.set n y)
  | _, _, _, .nil => .nil
  | _, _, 0, .cons _ hs => .cons h hs
  | _, _, n + 1, .cons q hs => .cons q (RVs.set h n hs)
theorem RVs.eraseIdx : ∀ {xs : List AV} {ys : List V} (n : Nat), RVs K H m xs ys → RVs K H m (xs.eraseIdx n) (ys.eraseIdx n)
  | _, _, _, .nil => .nil
  | _, _, 0, .cons _ hs => hs
  | _, _, n + 1, .cons q hs => .cons q (hs.eraseIdx n)
theorem RVs.reverse : ∀ {xs : List AV} {ys : List V}, RVs K H m xs ys → RVs K H m xs.reverse ys.reverse
  | _, _, .nil => .nil
  | _, _, .cons h hs => by rw [List.reverse_cons, List.reverse_cons]; exact hs.reverse.append (.one h)
theorem RVs.rep {xs : List AV} {ys : List V} (h : RVs K H m xs ys) : ∀ n : Nat, RVs K H m (List.replicate n xs).flatten (List.replicate n ys).flatten
  | 0 => .nil
  | n + 1 => by rw [List.replicate_succ, List.replicate_succ, List.flatten_cons, List.flatten_cons]; exact h.append (h.rep n)
theorem RVs.dropLast {xs : List AV} {ys : List V} (h : RVs K H m xs ys) : RVs K H m xs.dropLast ys.dropLast := by
  rw [List.dropLast_eq_take, List.dropLast_eq_take, h.length]; exact h.take _
theorem RVs.ofInts : ∀ {xs : List AV} {ys : List V} {ns : List Int}, RVs K H m xs ys → intsOf xs = some ns → ys = ns.map V.int
  | _, _, ns, .nil, e => by simp [intsOf] at e; subst e; rfl
  | _, _, ns, .cons (xs := xs) h hs, e => by
    cases h with
    | int i =>
      simp only [intsOf] at e
      cases q : intsOf xs with
      | none => rw [q] at e; cases e
      | some ms =>
        rw [q] at e; cases e
        rw [hs.ofInts q]; rfl
    | _ => simp [intsOf] at e
theorem RVs.ofStrs : ∀ {xs : List AV} {ys : List V} {ns : List Str}, RVs K H m xs ys → strsOf xs = some ns → ys = ns.map V.str
  | _, _, ns, .nil, e => by simp [strsOf] at e; subst e; rfl
  | _, _, ns, .cons (xs := xs) h hs, e => by
    cases h with
    | str i =>
      simp only [strsOf] at e
      cases q : strsOf xs with
      | none => rw [q] at e; cases e
      | some ms =>
        rw [q] at e; cases e
        rw [hs.ofStrs q]; rfl
    | _ => simp [strsOf] at e
theorem RVs.strs : ∀ (xs : List Str), RVs K H m (xs.map AV.str) (xs.map V.str)
  | [] => .nil
  | x :: r => .cons (.str x) (RVs.strs r)
theorem RVs.ofBools : ∀ {xs : List AV} {ys : List V} {ns : List Bool}, RVs K H m xs ys → boolsOf xs = some ns → ys = ns.map V.bl
  | _, _, ns, .nil, e => by simp [boolsOf] at e; subst e; rfl
  | _, _, ns, .cons (xs := xs) h hs, e => by
    cases h with
    | bl i =>
      simp only [boolsOf] at e
      cases q : boolsOf xs with
      | none => rw [q] at e; cases e
      | some ms =>
        rw [q] at e; cases e
        rw [hs.ofBools q]; rfl
    | _ => simp [boolsOf] at e
mutual
theorem RV.dp : ∀ {x : AV} {y : V} {d : PyData}, RV K H m x y → pd0 x = some d → Dp K H y d
  | _, _, _, .non, e => by simp [pd0] at e; subst e; exact .non
  | _, _, _, .bl b, e => by simp [pd0] at e; subst e; exact .bl b
  | _, _, _, .int i, e => by simp [pd0] at e; subst e; exact .int i
  | _, _, _, .str x, e => by simp [pd0] at e; subst e; exact .str x
  | _, _, _, .ty n, e => by simp [pd0] at e
  | _, _, _, .tup (xs := xs) h hs, e => by
    simp only [pd0] at e
    cases q : pds xs with
    | none => rw [q] at e; cases e
    | some ds => rw [q] at e; cases e; exact .tup (.of h) (RVs.dp hs q)
  | _, _, _, .fl h hs, e => by simp [pd0] at e
  | _, _, _, .ref h, e => by simp [pd0] at e
  | _, _, _, .pt h hd, e => by simp [pd0] at e
theorem RVs.dp : ∀ {x : List AV} {y : List V} {d : List PyData}, RVs K H m x y → pds x = some d → DpAll K H y d
  | _, _, _, .nil, e => by simp [pds] at e; subst e; exact .nil
  | _, _, _, .cons (x := x) (xs := xs) h hs, e => by
    simp only [pds] at e
    cases q : pd0 x with
    | none => rw [q] at e; simp at e
    | some d =>
      cases q2 : pds xs with
      | none => rw [q, q2] at e; simp at e
      | some ds => rw [q, q2] at e; simp at e; subst e; exact .cons (RV.dp h q) (RVs.dp hs q2)
end

/-! ### the heap -/
theorem RelH.obj (R : RelH K m A H) {n : Nat} {o : AO} (h : A[n]? = some o) : ∃ a, m[n]? = some a ∧ RO K H m a o := by
  have hl : n < A.length := (List.getElem?_eq_some_iff.mp h).1
  have e : m[n]? = some (m[n]'(by rw [R.len]; exact hl)) := List.getElem?_eq_getElem _
  exact ⟨_, e, R.at_ n _ o e h⟩
theorem RelH.of (R : RelH K m A H) {n : Nat} {a : Addr} {o : AO} (hm : m[n]? = some a) (h : A[n]? = some o) : RO K H m a o := R.at_ n a o hm h
theorem RelH.there (R : RelH K m A H) (h : a ∈ m) : ∃ u, H a = some u ∧ (∀ xs, u ≠ .tup xs) := by
  obtain ⟨n, hn, e⟩ := List.getElem_of_mem h
  have hm : m[n]? = some a := by rw [List.getElem?_eq_getElem hn, e]
  have hA : A[n]? = some (A[n]'(by rw [← R.len]; exact hn)) := List.getElem?_eq_getElem _
  have := R.at_ n a _ hm hA
  cases q : A[n]'(by rw [← R.len]; exact hn) with
  | lst xs => rw [q] at this; obtain ⟨ys, e, _⟩ := this; exact ⟨_, e, fun _ z => nomatch z⟩
  | dK xs => rw [q] at this; obtain ⟨ys, e, _⟩ := this; exact ⟨_, e, fun _ z => nomatch z⟩
  | dT fz xs =>
    rw [q] at this
    obtain ⟨ys, ⟨_, e⟩ | ⟨_, o, e⟩, _⟩ := this
    · exact ⟨_, e, fun _ z => nomatch z⟩
    · exact ⟨_, e, fun _ z => nomatch z⟩
theorem RelH.fresh (R : RelH K m A H) (h : H a = none) : a ∉ m := fun z => by
  obtain ⟨u, e, _⟩ := R.there z
  rw [h] at e; cases e
/-- a new concrete object that is not taken up -/
theorem Tr.more (R : RelH K m A H) {o : HO} (h : H a = none) : Tr m H m (upd H a o) where
  pre := List.prefix_refl _
  new := fun b hb n => absurd hb n
  keep := fun b u e _ => by rw [upd_ne (ne_of_none e h)]; exact e
  tups := fun b u e => ⟨fun _ _ => by rw [upd_ne (ne_of_none e h)]; exact e, fun _ _ _ => by rw [upd_ne (ne_of_none e h)]; exact e⟩
theorem RO.mono0 (t : Stay K m H m' H') {o : AO} (e : H' a = H a) (h : RO K H m a o) : RO K H' m' a o := by
  cases o with
  | lst xs => obtain ⟨ys, e1, r⟩ := h; exact ⟨ys, e.trans e1, r.mono0 t⟩
  | dK xs => obtain ⟨ys, e1, r⟩ := h; exact ⟨ys, e.trans e1, Paired.mapP r fun p q z => ⟨z.1, z.2.mono0 t⟩⟩
  | dT fz xs => obtain ⟨ys, e1, r⟩ := h; exact ⟨ys, e1.imp (fun z => ⟨z.1, e.trans z.2⟩) (fun ⟨z, o, w⟩ => ⟨z, o, e.trans w⟩), Paired.mapP r fun p q z => ⟨z.1, z.2.mono0 t⟩⟩
theorem RO.mono (t : Tr m H m' H') {o : AO} (e : H' a = H a) (h : RO K H m a o) : RO K H' m' a o := h.mono0 t.stay e
theorem RelH.more (R : RelH K m A H) {o : HO} (h : H a = none) : RelH K m A (upd H a o) where
  len := R.len
  nd := R.nd
  at_ := fun n b u hm hA => (R.at_ n b u hm hA).mono (Tr.more R h) (upd_ne fun z => R.fresh h (z ▸ List.mem_of_getElem? hm))
/-- a new concrete object taken up as a new abstract one -/
theorem Tr.take (R : RelH K m A H) {o : HO} (h : H a = none) : Tr m H (m ++ [a]) (upd H a o) where
  pre := List.prefix_append _ _
  new := fun b hb n => by
    rcases List.mem_append.mp hb with z | z
    · exact absurd z n
    · have e : b = a := by simpa using z
      subst e; exact h
  keep := (Tr.more R h).keep
  tups := (Tr.more R h).tups
/-- an object that stands apart is taken up -/
theorem Tr.adopt (t : Tr m H m' H') (h : H a = none) : Tr m H (m' ++ [a]) H' where
  pre := t.pre.trans (List.prefix_append _ _)
  new := fun b hb n => by
    rcases List.mem_append.mp hb with z | z
    · exact t.new b z n
    · have e : b = a := by simpa using z
      subst e; exact h
  keep := t.keep
  tups := t.tups
theorem RelH.adopt (R : RelH K m A H) {o : AO} (h : a ∉ m) (ho : RO K H (m ++ [a]) a o) : RelH K (m ++ [a]) (A ++ [o]) H where
  len := by rw [List.length_append, List.length_append, R.len]; rfl
  nd := by
    rw [List.nodup_append]
    refine ⟨R.nd, by simp, fun x hx y hy e => ?_⟩
    have e2 : y = a := by simpa using hy
    subst e2 e; exact h hx
  at_ := fun n b u hm hA => by
    by_cases hn : n < A.length
    · rw [List.getElem?_append_left hn] at hA
      rw [List.getElem?_append_left (by rw [R.len]; exact hn)] at hm
      exact (R.at_ n b u hm hA).mono0 ⟨fun i c e => by rw [List.getElem?_append_left (List.getElem?_eq_some_iff.mp e).1]; exact e, fun _ _ e => e, fun _ _ e => e, fun _ _ _ e => e⟩ rfl
    · have e : n = A.length := by
        have := (List.getElem?_eq_some_iff.mp hA).1
        rw [List.length_append, List.length_singleton] at this
        omega
      subst e
      rw [List.getElem?_append_right (Nat.le_refl _)] at hA
      rw [← R.len, List.getElem?_append_right (Nat.le_refl _)] at hm
      simp at hA hm
      subst hA hm
      exact ho
end
/-! ### keys and entries -/
section
variable {K : PySem.W.Frag} {m : List Addr} {H : Hp}
abbrev Ents (K : PySem.W.Frag) (H : Hp) (m : List Addr) : List (List Key × AV) → List (List Key × V) → Prop := Paired fun p q => p.1 = q.1 ∧ RV K H m p.2 q.2
theorem atomsK_of : ∀ {xs : List AV} {ys : List V} {ks : List Key}, RVs K H m xs ys → atomsK xs = some ks → ys = ks.map kV
  | _, _, _, .nil, e => by simp [atomsK] at e; subst e; rfl
  | _, _, _, .cons (x := x) (xs := xs) h hs, e => by
    simp only [atomsK] at e
    cases q : atomsK xs with
    | none => rw [q] at e; cases h <;> simp [atomK] at e
    | some ks =>
      rw [q] at e
      have ih := atomsK_of hs q
      cases h with
      | int i => simp [atomK] at e; subst e; rw [ih]; rfl
      | str x => simp [atomK] at e; subst e; rw [ih]; rfl
      | _ => simp [atomK] at e
/-- what stands at a key's address -/
theorem RV.key {x : AV} {y : V} {ks : List Key} (r : RV K H m x y) (h : keyOf x = some ks) : ∃ b, y = .ref b ∧ H b = some (.tup (ks.map kV)) := by
  cases r with
  | tup he hs =>
    have := atomsK_of hs h
    subst this
    exact ⟨_, rfl, he⟩
  | _ => cases h
theorem Ents.get {kvs : List (List Key × AV)} {ws : List (List Key × V)} (r : Ents K H m kvs ws) (k : List Key) :
    (aGet kvs k = none ∧ valV ws k = none) ∨ ∃ v w, aGet kvs k = some v ∧ valV ws k = some w ∧ RV K H m v w := by
  induction r with
  | nil => exact .inl ⟨rfl, rfl⟩
  | @cons p q ps qs h t ih =>
    by_cases e : p.1 = k
    · refine .inr ⟨p.2, q.2, by simp [aGet, List.find?_cons, e], valV_pos (h.1.symm.trans e), h.2⟩
    · have e2 : ¬ q.1 = k := fun z => e (h.1.trans z)
      rw [valV_neg e2]
      have : aGet (p :: ps) k = aGet ps k := by simp [aGet, List.find?_cons, e]
      rw [this]
      exact ih
theorem Ents.any {kvs : List (List Key × AV)} {ws : List (List Key × V)} (r : Ents K H m kvs ws) (k : List Key) : (kvs.any fun kv => decide (kv.1 = k)) = (ws.any fun kv => decide (kv.1 = k)) := by
  induction r with
  | nil => rfl
  | @cons p q ps qs h t ih => rw [List.any_cons, List.any_cons, ih, h.1]
theorem Ents.repl {kvs : List (List Key × AV)} {ws : List (List Key × V)} (r : Ents K H m kvs ws) (k : List Key) {v : AV} {w : V} (hv : RV K H m v w) :
    Ents K H m (kvs.map fun kv => if kv.1 = k then (kv.1, v) else kv) (ws.map fun kv => if kv.1 = k then (kv.1, w) else kv) := by
  induction r with
  | nil => exact .nil
  | @cons p q ps qs h t ih =>
    rw [List.map_cons, List.map_cons]
    refine .cons ?_ ih
    by_cases e : p.1 = k
    · have e2 : q.1 = k := h.1.symm.trans e
      simp only [e, e2, if_true]
      exact ⟨trivial, hv⟩
    · have e2 : ¬ q.1 = k := fun z => e (h.1.trans z)
      simp only [e, e2, if_false]
      exact h
theorem Ents.snoc {kvs : List (List Key × AV)} {ws : List (List Key × V)} (r : Ents K H m kvs ws) (k : List Key) {v : AV} {w : V} (hv : RV K H m v w) : Ents K H m (kvs ++ [(k, v)]) (ws ++ [(k, w)]) := by
  induction r with
  | nil => exact .cons ⟨rfl, hv⟩ .nil
  | cons h t ih => exact .cons h ih
theorem Ents.put {kvs : List (List Key × AV)} {ws : List (List Key × V)} (r : Ents K H m kvs ws) (k : List Key) {v : AV} {w : V} (hv : RV K H m v w) : Ents K H m (aPut kvs k v) (putK ws k w) := by
  unfold aPut putK
  rw [r.any k]
  split
  · exact r.repl k hv
  · exact r.snoc k hv
theorem Ents.at {kvs : List (List Key × AV)} {ws : List (List Key × V)} (r : Ents K H m kvs ws) : ∀ {i : Nat} {p : List Key × AV}, kvs[i]? = some p → ∃ q, ws[i]? = some q ∧ p.1 = q.1 ∧ RV K H m p.2 q.2 := by
  induction r with
  | nil => intro i p h; simp at h
  | cons h t ih =>
    intro i p e
    cases i with
    | zero => simp at e; subst e; exact ⟨_, rfl, h⟩
    | succ i => obtain ⟨q, h1, h2⟩ := ih (i := i) (by simpa using e); exact ⟨q, by simpa using h1, h2⟩
theorem Ents.length {kvs : List (List Key × AV)} {ws : List (List Key × V)} (r : Ents K H m kvs ws) : kvs.length = ws.length := by
  induction r with
  | nil => rfl
  | cons _ _ ih => rw [List.length_cons, List.length_cons, ih]
end
end Ev


set_option linter.all false
set_option maxRecDepth 100000
namespace Ev
open PySem PySem.Spec PyProof.Rows L2

def FG {α : Type} (K : PySem.W.Frag) (m : List Addr) (H : Hp) (r : Res α) (P : α → AH → List Addr → Hp → Prop) : Prop :=
  match r with
  | .ok v A' => ∀ m' H', Tr m H m' H' → RelH K m' A' H' → P v A' m' H'
  | .bad => False
def Fin (K : PySem.W.Frag) (m : List Addr) (H : Hp) (r : Res AV) (Q : VK) : Prop := FG K m H r fun v _ m' H' => ∀ x, RV K H' m' v x → Q x H'
def FinT (K : PySem.W.Frag) (m : List Addr) (H : Hp) (r : Res Bool) (Q : Bool → Hp → Prop) : Prop := FG K m H r fun k _ _ H' => Q k H'
theorem FG.shift {α : Type} {K : PySem.W.Frag} {m m1 : List Addr} {H H1 : Hp} {r : Res α} {P : α → AH → List Addr → Hp → Prop} (h : FG K m H r P) (t : Tr m H m1 H1) : FG K m1 H1 r P := by
  cases r with
  | ok a A => exact fun m' H' t' R' => h m' H' (t.trans t') R'
  | bad => exact h
theorem FG.bind {α β : Type} {K : PySem.W.Frag} {m : List Addr} {H : Hp} {r : Res α} {f : α → AH → Res β} {P : β → AH → List Addr → Hp → Prop} (h : FG K m H (r.bind f) P) : FG K m H r fun a A1 m1 H1 => FG K m1 H1 (f a A1) P := by
  cases r with
  | ok a A => exact fun m' H' t' R' => FG.shift (r := f a A) h t'
  | bad => exact h
theorem FG.imp {α : Type} {K : PySem.W.Frag} {m : List Addr} {H : Hp} {r : Res α} {P P' : α → AH → List Addr → Hp → Prop} (h : FG K m H r P) (f : ∀ a A' m' H', Tr m H m' H' → RelH K m' A' H' → P a A' m' H' → P' a A' m' H') : FG K m H r P' := by
  cases r with
  | ok a A => exact fun m' H' t' R' => f a A m' H' t' R' (h m' H' t' R')
  | bad => exact h
def opOf : BOp → Operator
  | .add => .Add | .sub => .Sub | .mul => .Mult | .fdiv => .FloorDiv | .mod => .Mod | .pow => .Pow | .shl => .LShift | .shr => .RShift | .band => .BitAnd | .bor => .BitOr
def cmOf : COp → CmpOp
  | .eq => .Eq | .ne => .NotEq | .lt => .Lt | .le => .LtE | .gt => .Gt | .ge => .GtE | .is_ => .Is | .isnot => .IsNot | .in_ => .In | .notin => .NotIn
def rBin (K : PySem.W.Frag) (f : AV → AV → AH → Res AV) : R2 := fun x y H Q => ∃ m A ax ay, RelH K m A H ∧ RV K H m ax x ∧ RV K H m ay y ∧ Fin K m H (f ax ay A) Q
def rCmp (K : PySem.W.Frag) (f : AV → AV → AH → Option Bool) : R2 := fun x y H Q => ∃ m A ax ay k, RelH K m A H ∧ RV K H m ax x ∧ RV K H m ay y ∧ f ax ay A = some k ∧ Q (.bl k) H

section
variable {X : Cx} {m : List Addr} {A : AH} {H : Hp}
theorem Fin.here {v : AV} {x : V} {Q : VK} {K : PySem.W.Frag} (R : RelH K m A H) (h : Fin K m H (.ok v A) Q) (r : RV K H m v x) : Q x H := h m H Tr.refl R x r
/-- a new tuple -/
theorem Fin.tupNew {xs : List AV} {ys : List V} {p : Addr} {Q : VK} {K : PySem.W.Frag} (R : RelH K m A H) (h : Fin K m H (.ok (.tup xs) A) Q) (r : RVs K H m xs ys) (np : H p = none) : Q (.ref p) (upd H p (.tup ys)) :=
  h m _ (Tr.more R np) (R.more np) _ (.tup upd_same (r.mono (Tr.more R np)))
/-- a new tuple of texts -/
theorem Fin.ptNew {xs : List Str} {p : Addr} {o : Obj} {Q : VK} {K : PySem.W.Frag} (R : RelH K m A H) (h : Fin K m H (.ok (.pt xs) A) Q) (hd : o.dict = none) (np : H p = none) : Q (.ref p) (upd H p (.frz o (.tup (xs.map V.str)))) :=
  h m _ (Tr.more R np) (R.more np) _ (.pt upd_same hd)
/-- a new list, taken up -/
theorem Fin.lstNew {xs : List AV} {ys : List V} {p : Addr} {Q : VK} {K : PySem.W.Frag} (R : RelH K m A H) (h : Fin K m H (.ok (.ref A.length) (A ++ [.lst xs])) Q) (r : RVs K H m xs ys) (np : H p = none) : Q (.ref p) (upd H p (.lst ys)) := by
  have t1 : Tr m H m (upd H p (.lst ys)) := Tr.more R np
  have t2 : Tr m H (m ++ [p]) (upd H p (.lst ys)) := Tr.take R np
  refine h (m ++ [p]) _ t2 ((R.more np).adopt (R.fresh np) ⟨ys, upd_same, r.mono t2⟩) _ (.ref ?_)
  rw [← R.len, List.getElem?_append_right (Nat.le_refl _)]; simp
theorem Fin.dctNew {K : PySem.W.Frag} {Q : VK} (h : Fin K m H (.ok (.ref A.length) (A ++ [.dT false []])) Q) (R : RelH K m A H) {p : Addr} (np : H p = none) : Q (.ref p) (upd H p (.dT [])) := by
  have t1 : Tr m H m (upd H p (.dT [])) := Tr.more R np
  have t2 : Tr m H (m ++ [p]) (upd H p (.dT [])) := Tr.take R np
  refine h (m ++ [p]) _ t2 ((R.more np).adopt (R.fresh np) ⟨[], .inl ⟨rfl, upd_same⟩, .nil⟩) _ (.ref ?_)
  rw [← R.len, List.getElem?_append_right (Nat.le_refl _)]; simp
/-- an object is written -/
theorem RelH.put {K : PySem.W.Frag} (R : RelH K m A H) {n : Nat} {a : Addr} {o : AO} {u : HO} (hm : m[n]? = some a) (hu : ∀ H', (∀ b, b ≠ a → H' b = H b) → H' a = some u → Stay K m H m H' → RO K H' m a o)
    (hn : ∀ xs, H a ≠ some (.tup xs)) (hf : ∀ q v, H a ≠ some (.frz q v)) : Tr m H m (upd H a u) ∧ RelH K m (A.set n o) (upd H a u) := by
  have am : a ∈ m := List.mem_of_getElem? hm
  have t : Tr m H m (upd H a u) := by
    refine ⟨List.prefix_refl _, fun b hb n => absurd hb n, fun b v e nb => ?_, fun b v e => ⟨fun xs z => ?_, fun q v z => ?_⟩⟩
    · rw [upd_ne (fun (z : b = a) => nb (by rw [z]; exact am))]; exact e
    · rw [upd_ne (fun (y : b = a) => hn xs (by rw [← y, e, z]))]; exact e
    · rw [upd_ne (fun (y : b = a) => hf q v (by rw [← y, e, z]))]; exact e
  refine ⟨t, ⟨by rw [List.length_set]; exact R.len, R.nd, fun i b v hb hv => ?_⟩⟩
  by_cases hi : i = n
  · subst hi
    rw [hm] at hb; cases hb
    rw [List.getElem?_set_self (by rw [← R.len]; exact (List.getElem?_eq_some_iff.mp hm).1)] at hv
    cases hv
    exact hu _ (fun b h => upd_ne h) upd_same t.stay
  · rw [List.getElem?_set_ne (Ne.symm hi)] at hv
    refine (R.at_ i b v hb hv).mono t (upd_ne fun z => hi ?_)
    subst z
    have h1 := (List.getElem?_eq_some_iff.mp hb)
    have h2 := (List.getElem?_eq_some_iff.mp hm)
    exact (List.getElem_inj R.nd).mp (h1.2.trans h2.2.symm)
theorem RelH.putL {K : PySem.W.Frag} (R : RelH K m A H) {n : Nat} {a : Addr} {xs : List AV} {ys zs : List V} (hm : m[n]? = some a) (hl : H a = some (.lst zs)) (r : RVs K H m xs ys) :
    Tr m H m (upd H a (.lst ys)) ∧ RelH K m (A.set n (.lst xs)) (upd H a (.lst ys)) :=
  R.put hm (fun H' _ e st => ⟨ys, e, RVs.mono0 st r⟩) (fun xs e => by rw [hl] at e; cases e) (fun q v e => by rw [hl] at e; cases e)
theorem RelH.seqH {K : PySem.W.Frag} (R : RelH K m A H) {x : AV} {y : V} {xs : List AV} (r : RV K H m x y) (h : seqOf A x = some xs) (hp : ∀ zs, x ≠ .pt zs) : ∃ a ys, y = .ref a ∧ (SqL K H a ys ∨ H a = some (.tup ys)) ∧ RVs K H m xs ys := by
  cases r with
  | pt _ _ => exact absurd rfl (hp _)
  | tup ht hs => simp only [seqOf, Option.some.injEq] at h; subst h; exact ⟨_, _, rfl, .inr ht, hs⟩
  | fl ht hs => simp only [seqOf, Option.some.injEq] at h; subst h; exact ⟨_, _, rfl, .inl ht.l, hs⟩
  | @ref n a hm =>
    simp only [seqOf] at h
    cases q : A[n]? with
    | none => rw [q] at h; cases h
    | some o =>
      rw [q] at h
      have ro := R.of hm q
      cases o with
      | lst ys => simp only [Option.some.injEq] at h; subst h; obtain ⟨zs, e, r⟩ := ro; exact ⟨a, zs, rfl, .inl (.of e), r⟩
      | _ => cases h
  | _ => cases h
theorem RelH.seq {K : PySem.W.Frag} (R : RelH K m A H) {x : AV} {y : V} {xs : List AV} (r : RV K H m x y) (h : seqOf A x = some xs) : ∃ a ys, y = .ref a ∧ (SqL K H a ys ∨ SqT K H a ys) ∧ RVs K H m xs ys := by
  by_cases hp : ∃ zs, x = .pt zs
  · obtain ⟨zs, rfl⟩ := hp
    cases r with
    | pt e _ => simp only [seqOf, Option.some.injEq] at h; subst h; exact ⟨_, _, rfl, .inr (.inl (.inr ⟨_, e⟩)), RVs.strs _⟩
  · obtain ⟨a, ys, e, q, r⟩ := R.seqH r h fun zs e => hp ⟨zs, e⟩
    exact ⟨a, ys, e, q.elim .inl fun z => .inr (.of z), r⟩
theorem two_le {k : Int} : k ≤ 1000 → (2 : Int) ≤ k → k.toNat = k.toNat := fun _ _ => rfl

theorem op_bin {o : BOp} : OpR X (binaryOp (opOf o)) (rBin X.K (aBin o)) := by
  rintro pins s σ H x y v u Q I rx ry ⟨m, A, ax, ay, R, hx, hy, fin⟩
  cases o with
  | add =>
    cases hx with
    | int i =>
      cases hy with
      | int j => exact op_add pins s σ H _ _ v u Q I rx ry ⟨i, j, rfl, rfl, fin.here R (.int _)⟩
      | _ => exact False.elim fin
    | str i =>
      cases hy with
      | str j =>
        simp only [aBin] at fin
        split at fin
        · rename_i hz; exact op_add_str pins s σ H _ _ v u Q I rx ry ⟨i, j, rfl, rfl, hz, fin.here R (.str _)⟩
        · exact False.elim fin
      | _ => exact False.elim fin
    | @tup xs a ys ha hs =>
      cases hy with
      | @tup zs b ws hb hr =>
        simp only [aBin] at fin
        split at fin
        · rename_i hz
          rw [hs.length, hr.length] at hz
          refine op_catA pins s σ H _ _ v u Q I rx ry ⟨a, b, ys, ws, rfl, rfl, .of ha, .of hb, hz, fun e => ?_, fun _ e => ?_, fun _ _ p np => fin.tupNew R (hs.append hr) np⟩
          · subst e
            have e2 : xs = [] := List.length_eq_zero_iff.mp hs.length
            subst e2
            exact fin.here R (.tup hb hr)
          · subst e
            have e2 : zs = [] := List.length_eq_zero_iff.mp hr.length
            subst e2
            rw [List.append_nil] at fin
            exact fin.here R (.tup ha hs)
        · exact False.elim fin
      | _ => exact False.elim fin
    | @ref n a hn =>
      cases hy with
      | @ref k b hk =>
        simp only [aBin] at fin
        split at fin
        · rename_i xs ys e1 e2
          split at fin
          · rename_i hz
            obtain ⟨us, f1, r1⟩ := R.of hn e1
            obtain ⟨ws, f2, r2⟩ := R.of hk e2
            rw [r1.length, r2.length] at hz
            exact op_cat pins s σ H _ _ v u Q I rx ry ⟨a, b, us, ws, rfl, rfl, f1, f2, hz, fun p np => fin.lstNew R (r1.append r2) np⟩
          · exact False.elim fin
        · exact False.elim fin
      | _ => exact False.elim fin
    | _ => exact False.elim fin
  | sub =>
    cases hx with
    | int i =>
      cases hy with
      | int j => exact op_sub pins s σ H _ _ v u Q I rx ry ⟨i, j, rfl, rfl, fin.here R (.int _)⟩
      | _ => exact False.elim fin
    | _ => exact False.elim fin
  | mul =>
    cases hx with
    | int i =>
      cases hy with
      | int j =>
        simp only [aBin] at fin
        split at fin
        · rename_i hz
          have q := fin.here R (.int _)
          simp only [mulOk, Bool.or_eq_true, Bool.and_eq_true, decide_eq_true_eq] at hz
          rcases hz with (hz | hz) | hz
          · exact op_mul pins s σ H _ _ v u Q I rx ry ⟨i, j, rfl, rfl, .inl hz, q⟩
          · exact op_mul pins s σ H _ _ v u Q I rx ry ⟨i, j, rfl, rfl, .inr hz, q⟩
          · exact op_mulW pins s σ H _ _ v u Q I rx ry ⟨i, j, rfl, rfl, hz, q⟩
        · exact False.elim fin
      | _ => exact False.elim fin
    | @tup xs a ys ha hs =>
      cases hy with
      | int k =>
        simp only [aBin] at fin
        split at fin
        · rename_i hz
          obtain ⟨h1, h2, h3, h4⟩ := hz
          rw [hs.length] at h4
          refine op_repT pins s σ H _ _ v u Q I rx ry ⟨a, k, ys, rfl, rfl, .of ha, fun e => h1 ?_, h2, h3, h4, fun p np => fin.tupNew R (hs.rep _) np⟩
          subst e; exact List.length_eq_zero_iff.mp hs.length
        · exact False.elim fin
      | _ => exact False.elim fin
    | @ref n a hn =>
      cases hy with
      | int k =>
        simp only [aBin] at fin
        split at fin
        · rename_i xs e1
          split at fin
          · rename_i hz
            obtain ⟨us, f1, r1⟩ := R.of hn e1
            obtain ⟨h1, h2, h3⟩ := hz
            rw [r1.length] at h3
            exact op_rep pins s σ H _ _ v u Q I rx ry ⟨a, k, us, rfl, rfl, f1, h1, h2, h3, fun p np => fin.lstNew R (r1.rep _) np⟩
          · exact False.elim fin
        · exact False.elim fin
      | _ => exact False.elim fin
    | _ => exact False.elim fin
  | fdiv =>
    cases hx with
    | int i =>
      cases hy with
      | int j =>
        simp only [aBin] at fin
        split at fin
        · rename_i hz
          simp only [divOk, Bool.or_eq_true, Bool.and_eq_true, decide_eq_true_eq] at hz
          rcases hz with hz | hz
          · have h0 : (0 : Int) < j := hz.1
            rw [Int.fdiv_eq_ediv_of_nonneg i (by omega)] at fin
            exact op_fdivW pins s σ H _ _ v u Q I rx ry ⟨i, j, rfl, rfl, hz, fin.here R (.int _)⟩
          · exact op_fdivN pins s σ H _ _ v u Q I rx ry ⟨i, j, rfl, rfl, hz, fin.here R (.int _)⟩
        · exact False.elim fin
      | _ => exact False.elim fin
    | _ => exact False.elim fin
  | mod =>
    cases hx with
    | int i =>
      cases hy with
      | int j =>
        simp only [aBin] at fin
        split at fin
        · rename_i hz
          exact op_modN pins s σ H _ _ v u Q I rx ry ⟨i, j, rfl, rfl, hz, fin.here R (.int _)⟩
        · exact False.elim fin
      | _ => exact False.elim fin
    | _ => exact False.elim fin
  | pow =>
    cases hx with
    | int i =>
      cases hy with
      | int j =>
        simp only [aBin] at fin
        split at fin
        · rename_i hz
          simp only [powOk, Bool.and_eq_true, decide_eq_true_eq] at hz
          exact op_pow pins s σ H _ _ v u Q I rx ry ⟨i, j, rfl, rfl, ⟨hz.1.1, hz.1.2, hz.2⟩, fin.here R (.int _)⟩
        · exact False.elim fin
      | _ => exact False.elim fin
    | _ => exact False.elim fin
  | shl =>
    cases hx with
    | int i =>
      cases hy with
      | int j =>
        simp only [aBin] at fin
        split at fin
        · rename_i hz
          simp only [powOk, Bool.and_eq_true, decide_eq_true_eq] at hz
          exact op_shl pins s σ H _ _ v u Q I rx ry ⟨i, j, rfl, rfl, ⟨hz.1.1, hz.1.2, hz.2⟩, fin.here R (.int _)⟩
        · exact False.elim fin
      | _ => exact False.elim fin
    | _ => exact False.elim fin
  | shr =>
    cases hx with
    | int i =>
      cases hy with
      | int j =>
        simp only [aBin] at fin
        split at fin
        · rename_i hz
          exact op_shr pins s σ H _ _ v u Q I rx ry ⟨i, j, rfl, rfl, hz, fin.here R (.int _)⟩
        · exact False.elim fin
      | _ => exact False.elim fin
    | _ => exact False.elim fin
  | band =>
    cases hx with
    | int i =>
      cases hy with
      | int j => exact op_and pins s σ H _ _ v u Q I rx ry ⟨i, j, rfl, rfl, fin.here R (.int _)⟩
      | _ => exact False.elim fin
    | _ => exact False.elim fin
  | bor =>
    cases hx with
    | int i =>
      cases hy with
      | int j => exact op_or pins s σ H _ _ v u Q I rx ry ⟨i, j, rfl, rfl, fin.here R (.int _)⟩
      | _ => exact False.elim fin
    | _ => exact False.elim fin

/-! ### comparisons -/
theorem RelH.dp {K : PySem.W.Frag} (R : RelH K m A H) {x : AV} {y : V} {d : PyData} (r : RV K H m x y) (h : pd A x = some d) : Dp K H y d := by
  cases r with
  | @ref n a hm =>
    simp only [pd] at h
    cases q : A[n]? with
    | none => rw [q] at h; cases h
    | some o =>
      rw [q] at h
      have ro := R.of hm q
      cases o with
      | lst ys =>
        obtain ⟨zs, e, r⟩ := ro
        cases q2 : pds ys with
        | none => simp [q2] at h
        | some ds => simp only [q2, Option.map_some, Option.some.injEq] at h; subst h; exact .lst (.of e) (r.dp q2)
      | _ => cases h
  | @fl xs a ys ht r =>
    simp only [pd] at h
    cases q2 : pds xs with
    | none => simp [q2] at h
    | some ds => simp only [q2, Option.map_some, Option.some.injEq] at h; subst h; exact .lst ht.l (r.dp q2)
  | non => exact RV.dp (m := m) .non (by simpa [pd] using h)
  | bl b => exact RV.dp (m := m) (.bl b) (by simpa [pd] using h)
  | int b => exact RV.dp (m := m) (.int b) (by simpa [pd] using h)
  | str b => exact RV.dp (m := m) (.str b) (by simpa [pd] using h)
  | ty b => exact RV.dp (m := m) (.ty b) (by simpa [pd] using h)
  | tup ht hs => exact RV.dp (.tup ht hs) (by simpa [pd] using h)
  | pt he hd => simp [pd, pd0] at h
theorem RelH.eq {K : PySem.W.Frag} (R : RelH K m A H) {ax ay : AV} {x y : V} {k : Bool} (hx : RV K H m ax x) (hy : RV K H m ay y) (h : aEq A ax ay = some k) :
    ∃ d e, Dp K H x d ∧ Dp K H y e ∧ SeqAt.shaped d = true ∧ SeqAt.shaped e = true ∧ PyData.eqv d e = k := by
  unfold aEq at h
  split at h
  · rename_i d e h1 h2
    split at h
    · rename_i hz
      rw [Bool.and_eq_true] at hz
      exact ⟨d, e, R.dp hx h1, R.dp hy h2, hz.1, hz.2, Option.some.inj h⟩
    · cases h
  · cases h
theorem RV.flat {K : PySem.W.Frag} {x : AV} {y : V} (r : RV K H m x y) (h : flat x = true) : flatV y = true := by cases r <;> first | rfl | cases h
theorem RVs.flat {K : PySem.W.Frag} : ∀ {xs : List AV} {ys : List V}, RVs K H m xs ys → xs.all Ev.flat = true → ys.all flatV = true
  | _, _, .nil, _ => rfl
  | _, _, .cons r rs, h => by
    rw [List.all_cons, Bool.and_eq_true] at h
    rw [List.all_cons, Bool.and_eq_true]
    exact ⟨r.flat h.1, rs.flat h.2⟩
theorem RV.eqFl {K : PySem.W.Frag} {x z : AV} {y w : V} (r : RV K H m x y) (q : RV K H m z w) : eqFl x z = eqV y w := by cases r <;> cases q <;> rfl
theorem RVs.inFl {K : PySem.W.Frag} {z : AV} {w : V} (q : RV K H m z w) : ∀ {xs : List AV} {ys : List V}, RVs K H m xs ys → (xs.any fun y => eqFl y z) = inV w ys
  | _, _, .nil => rfl
  | _, _, .cons r rs => by
    unfold inV
    rw [List.any_cons, List.any_cons, r.eqFl q, rs.inFl q]
    rfl
theorem RV.isNone {K : PySem.W.Frag} {x : AV} {y : V} (r : RV K H m x y) : Ev.isNone x = decide (y = .non) := by cases r <;> simp [Ev.isNone]
/-- what an entry of a dict of tuple keys is -/
theorem RelH.dget {K : PySem.W.Frag} (R : RelH K m A H) {n : Nat} {a : Addr} {fz : Bool} {kvs : List (List Key × AV)} {y : AV} {yv : V} {k : List Key} (hm : m[n]? = some a) (hA : A[n]? = some (.dT fz kvs)) (hy : RV K H m y yv) (hk : keyOf y = some k) :
    (aGet kvs k = none ∧ DGet H a yv none) ∨ ∃ v w, aGet kvs k = some v ∧ DGet H a yv (some w) ∧ RV K H m v w := by
  obtain ⟨ws, e, r⟩ := R.of hm hA
  obtain ⟨b, rfl, eb⟩ := hy.key hk
  have hr : Rd H a (.dT ws) := by
    rcases e with ⟨_, e⟩ | ⟨_, o, e⟩
    · exact .inl e
    · exact .inr ⟨o, e⟩
  rcases Ents.get r k with ⟨h1, h2⟩ | ⟨v, w, h1, h2, h3⟩
  · exact .inl ⟨h1, .inr ⟨ws, k, b, hr, rfl, eb, h2.symm⟩⟩
  · exact .inr ⟨v, w, h1, .inr ⟨ws, k, b, hr, rfl, eb, h2.symm⟩, h3⟩
theorem in_of {pins : List (Addr × Obj)} {s : Shared} {σ : L2.St} {x y : V} {v u : Value} {Q : VK} {ax ay : AV} {k : Bool} {neg : Bool} (hu : X.A.units + 65 < cLine) (I : Inv X pins σ H s) (rx : RelV x v) (ry : RelV y u)
    (R : RelH X.K m A H) (hx : RV X.K H m ax x) (hy : RV X.K H m ay y) (h : aIn A ax ay = some k) (q : Q (.bl (if neg then !k else k)) H) :
    wpAny (model X.prog X.w) X.A (compareOp (if neg then .NotIn else .In) v u) (EP X pins σ Q) X.xe s := by
  cases hy with
  | str z =>
    cases hx with
    | str i =>
      simp only [aIn, Option.some.injEq] at h
      subst h
      cases neg
      · exact op_in_str pins s σ H _ _ v u Q I rx ry ⟨i, z, rfl, rfl, q⟩
      · exact op_notin_str pins s σ H _ _ v u Q I rx ry ⟨i, z, rfl, rfl, q⟩
    | _ => cases h
  | tup ht hs =>
    simp only [aIn] at h
    split at h
    · rename_i hz
      rw [Bool.and_eq_true] at hz
      have e := Option.some.inj h
      rw [hs.inFl hx] at e
      subst e
      cases neg
      · exact op_in_seq pins s σ H _ _ v u Q I rx ry ⟨_, _, rfl, .inr (.of ht), hx.flat hz.1, hs.flat hz.2, q⟩
      · exact op_notIn_seq pins s σ H _ _ v u Q I rx ry ⟨_, _, rfl, .inr (.of ht), hx.flat hz.1, hs.flat hz.2, q⟩
    · cases h
  | @ref n a hm =>
    simp only [aIn] at h
    split at h
    · rename_i kvs hd
      simp only [dctOf] at hd
      split at hd
      · rename_i fz kvs' hA
        cases hd
        cases hk : keyOf ax with
        | none => rw [hk] at h; cases h
        | some k' =>
          rw [hk] at h
          cases h
          dsimp only at q
          obtain rfl : u = Value.ref a := ry
          rcases R.dget hm hA hx hk with ⟨h1, g⟩ | ⟨w', z, h1, g, h3⟩
          · rw [h1] at q
            cases neg
            · exact d_in (by omega) I g rx fun s3 I3 => ⟨.bl _, H, I3, rfl, q⟩
            · exact d_notIn (by omega) I g rx fun s3 I3 => ⟨.bl _, H, I3, rfl, q⟩
          · rw [h1] at q
            cases neg
            · exact d_in (by omega) I g rx fun s3 I3 => ⟨.bl _, H, I3, rfl, q⟩
            · exact d_notIn (by omega) I g rx fun s3 I3 => ⟨.bl _, H, I3, rfl, q⟩
      · cases hd
    split at h
    · rename_i ys d h1 h2
      split at h
      · rename_i ds h3
        split at h
        · rename_i hz
          rw [Bool.and_eq_true] at hz
          have e := Option.some.inj h
          subst e
          have hl : Dp X.K H (.ref a) (.list ds) := by
            refine R.dp (x := .ref n) (.ref hm) ?_
            simp only [seqOf] at h1
            simp only [pd]
            cases q : A[n]? with
            | none => rw [q] at h1; cases h1
            | some o =>
              rw [q] at h1
              cases o with
              | lst zs => simp only [Option.some.injEq] at h1; subst h1; simp only [h3, Option.map_some]
              | _ => cases h1
          cases neg
          · exact op_inD hu pins s σ H _ _ v u Q I rx ry ⟨d, ds, hx.dp h2, hl, hz.1, hz.2, q⟩
          · exact op_notInD hu pins s σ H _ _ v u Q I rx ry ⟨d, ds, hx.dp h2, hl, hz.1, hz.2, q⟩
        · cases h
      · cases h
    · cases h
  | @fl xs a zs ht hs =>
    simp only [aIn, seqOf, dctOf] at h
    split at h
    · rename_i ys d h1 h2
      cases h1
      split at h
      · rename_i ds h3
        split at h
        · rename_i hz
          rw [Bool.and_eq_true] at hz
          have e := Option.some.inj h
          subst e
          have hl : Dp X.K H (.ref a) (.list ds) := .lst ht.l (hs.dp h3)
          cases neg
          · exact op_inD hu pins s σ H _ _ v u Q I rx ry ⟨d, ds, hx.dp h2, hl, hz.1, hz.2, q⟩
          · exact op_notInD hu pins s σ H _ _ v u Q I rx ry ⟨d, ds, hx.dp h2, hl, hz.1, hz.2, q⟩
        · cases h
      · cases h
    · cases h
  | @pt ys a o he hd =>
    cases hx with
    | str z =>
      simp only [aIn] at h
      have e := Option.some.inj h
      have hs : RVs X.K H m (ys.map AV.str) (ys.map V.str) := RVs.strs ys
      have fl : (ys.map AV.str).all flat = true := by rw [List.all_map, List.all_eq_true]; intro _ _; rfl
      rw [hs.inFl (.str z)] at e
      subst e
      cases neg
      · exact op_in_seq pins s σ H _ _ v u Q I rx ry ⟨_, _, rfl, .inr (.inl (.inr ⟨_, he⟩)), (RV.str (K := X.K) (H := H) (m := m) z).flat rfl, hs.flat fl, q⟩
      · exact op_notIn_seq pins s σ H _ _ v u Q I rx ry ⟨_, _, rfl, .inr (.inl (.inr ⟨_, he⟩)), (RV.str (K := X.K) (H := H) (m := m) z).flat rfl, hs.flat fl, q⟩
    | _ => cases h
  | _ => simp [aIn, seqOf, dctOf] at h
theorem op_cmp {o : COp} (hu : X.A.units + 65 < cLine) : OpR X (compareOp (cmOf o)) (rCmp X.K (aCmp o)) := by
  rintro pins s σ H x y v u Q I rx ry ⟨m, A, ax, ay, k, R, hx, hy, e, q⟩
  cases o with
  | eq =>
    obtain ⟨d, d', h1, h2, h3, h4, h5⟩ := R.eq hx hy e
    subst h5
    exact op_eqD (by omega) pins s σ H _ _ v u Q I rx ry ⟨d, d', h1, h2, h3, h4, q⟩
  | ne =>
    simp only [aCmp] at e
    cases q2 : aEq A ax ay with
    | none => rw [q2] at e; cases e
    | some k' =>
      rw [q2] at e
      cases e
      obtain ⟨d, d', h1, h2, h3, h4, h5⟩ := R.eq hx hy q2
      subst h5
      exact op_neD (by omega) pins s σ H _ _ v u Q I rx ry ⟨d, d', h1, h2, h3, h4, q⟩
  | lt =>
    cases hx with
    | int i =>
      cases hy with
      | int j => cases e; exact op_lt pins s σ H _ _ v u Q I rx ry ⟨i, j, rfl, rfl, q⟩
      | _ => cases e
    | str i =>
      cases hy with
      | str j => cases e; exact op_lt_str pins s σ H _ _ v u Q I rx ry ⟨i, j, rfl, rfl, q⟩
      | _ => cases e
    | @tup xs a ys ha hs =>
      cases hy with
      | @tup zs b ws hb hr =>
        simp only [aCmp, aLt] at e
        split at e
        · rename_i ns ms h1 h2
          cases e
          have e1 := hs.ofInts h1
          have e2 := hr.ofInts h2
          subst e1 e2
          exact op_ltT (by omega) pins s σ H _ _ v u Q I rx ry ⟨a, b, ns, ms, rfl, rfl, .of ha, .of hb, q⟩
        · cases e
      | _ => cases e
    | _ => cases e
  | le =>
    cases hx with
    | int i =>
      cases hy with
      | int j => cases e; exact op_le pins s σ H _ _ v u Q I rx ry ⟨i, j, rfl, rfl, q⟩
      | _ => cases e
    | _ => cases e
  | gt =>
    cases hx with
    | int i =>
      cases hy with
      | int j => cases e; exact op_gt pins s σ H _ _ v u Q I rx ry ⟨i, j, rfl, rfl, q⟩
      | _ => cases e
    | _ => cases e
  | ge =>
    cases hx with
    | int i =>
      cases hy with
      | int j => cases e; exact op_ge pins s σ H _ _ v u Q I rx ry ⟨i, j, rfl, rfl, q⟩
      | _ => cases e
    | _ => cases e
  | is_ =>
    cases hy with
    | non => simp only [aCmp, Option.some.injEq] at e; subst e; rw [hx.isNone] at q; exact op_isN pins s σ H _ _ v u Q I rx ry ⟨rfl, q⟩
    | _ => cases e
  | isnot =>
    cases hy with
    | non => simp only [aCmp, Option.some.injEq] at e; subst e; rw [hx.isNone] at q; exact op_notN pins s σ H _ _ v u Q I rx ry ⟨rfl, q⟩
    | _ => cases e
  | in_ => exact in_of (neg := false) hu I rx ry R hx hy e q
  | notin =>
    simp only [aCmp] at e
    cases q2 : aIn A ax ay with
    | none => rw [q2] at e; cases e
    | some k' =>
      rw [q2] at e
      cases e
      exact in_of (neg := true) hu I rx ry R hx hy q2 q
theorem RelH.truth {K : PySem.W.Frag} (R : RelH K m A H) {x : AV} {y : V} {k : Bool} (r : RV K H m x y) (h : Ev.truth A x = some k) : TruV K y H k := by
  cases r with
  | non => cases h; rfl
  | bl b => cases h; rfl
  | int b => cases h; rfl
  | str b =>
    simp only [Ev.truth] at h
    split at h
    · rename_i hz; cases h; exact ⟨hz, rfl⟩
    · cases h
  | ty b => cases h
  | pt _ _ => cases h
  | @tup xs a ys ht hs => cases h; exact .inr (.inl ⟨ys, .of ht, by cases hs <;> rfl⟩)
  | @fl xs a ys ht hs => cases h; exact .inl ⟨ys, ht.l, by cases hs <;> rfl⟩
  | @ref n a hm =>
    simp only [Ev.truth] at h
    cases q : A[n]? with
    | none => rw [q] at h; cases h
    | some o =>
      rw [q] at h
      have ro := R.of hm q
      cases o with
      | lst ys => cases h; obtain ⟨zs, e, r⟩ := ro; exact .inl ⟨zs, .of e, by cases r <;> rfl⟩
      | dK ys => cases h; obtain ⟨zs, e, r⟩ := ro; exact .inr (.inr ⟨zs, e, by cases r <;> rfl⟩)
      | dT _ ys => cases h

/-! ### subscripts, slices -/
theorem RVs.atI {K : PySem.W.Frag} {xs : List AV} {ys : List V} {i : Int} {v : AV} (r : RVs K H m xs ys) (h : L2.atI xs i = some v) : ∃ w, L2.atI ys i = some w ∧ RV K H m v w := by
  unfold L2.atI at h ⊢
  rw [r.length] at h
  cases q : ixN ys.length i with
  | none => rw [q] at h; cases h
  | some j => rw [q] at h; exact r.get h
def rIxA (K : PySem.W.Frag) : R2 := fun x y H Q => ∃ m A ax ay v, RelH K m A H ∧ RV K H m ax x ∧ RV K H m ay y ∧ aIx ax ay A = some v ∧ ∀ w, RV K H m v w → Q w H
theorem aIx_seq {ax : AV} {i : Int} {v : AV} (h : aIx ax (.int i) A = some v) : (∃ z c, ax = .str z ∧ z.length ≤ sizeLine ∧ L2.atI z.cps.toList i = some c ∧ v = .str ⟨#[c]⟩) ∨ ∃ xs, seqOf A ax = some xs ∧ L2.atI xs i = some v := by
  cases ax with
  | str z =>
    simp only [aIx] at h
    split at h
    · rename_i hz
      cases q : L2.atI z.cps.toList i with
      | none => rw [q] at h; cases h
      | some c => rw [q] at h; cases h; exact .inl ⟨z, c, rfl, hz, q, rfl⟩
    · cases h
  | tup xs => exact .inr ⟨xs, rfl, by simpa [aIx, seqOf] using h⟩
  | fl xs => exact .inr ⟨xs, rfl, by simpa [aIx, seqOf] using h⟩
  | pt xs => exact .inr ⟨_, rfl, by simpa [aIx, seqOf] using h⟩
  | ref n =>
    simp only [aIx] at h
    cases q : seqOf A (.ref n) with
    | none => rw [q] at h; cases h
    | some xs => rw [q] at h; exact .inr ⟨xs, rfl, h⟩
  | _ => simp [aIx, seqOf] at h
/-- behind the index: the item is asked for -/
theorem ixTail {s : Shared} {T id : String} {value slice : Expr} {v u : Value} {Q : Value → Shared → Prop} {E : Value → Shared → Prop} (hT : s.TypeIs v T) (hl : typeLookup (.type T) "__getitem__" = pure (some (.builtin id))) (hs : subscripted slice false v u = operate [v, u] (getItem v u))
    (h : wpAny (model X.prog X.w) X.A (getItem v u) Q E s) : wpAny (model X.prog X.w) X.A (subscriptTail value slice v u) Q E s := by
  have end_ : wpAny (model X.prog X.w) X.A (subscripted slice false v u) (fun r s' => wpAny (model X.prog X.w) X.A (letTemporaryGo value v r >>= fun _ => pure r) Q E s') E s := by rw [hs]; exact wpAny_operating (wpAny_mono h (fun r s' q => wpAny_bind (wpAny_letTemporaryGo (wpAny_pure q))) fun _ _ x => x)
  unfold subscriptTail; refine wpAny_bind ?_; rw [getitemInPython_of_ne hT.not_modules]; refine wpAny_bind (wpAny_specialOf hT hl ?_)
  first | exact wpAny_pure (wpAny_bind end_) | exact wpAny_bind (wpAny_pure (wpAny_bind end_)) | exact wpAny_bind end_
theorem ix_A (hu : X.A.units + 65 < cLine) : IxR X (rIxA X.K) := by
  rintro value slice pins s σ H x y v u Q I rx ry ⟨m, A, ax, ay, w, R, hx, hy, e, q⟩ hs
  cases hy with
  | int i =>
    rcases aIx_seq e with ⟨z, c, rfl, hz, hc, rfl⟩ | ⟨xs, h1, h2⟩
    · cases hx
      exact ix_str value slice pins s σ H _ _ v u Q I rx ry ⟨z, i, c, rfl, rfl, hz, hc, q _ (.str _)⟩ hs
    · obtain ⟨a, ys, rfl, hq, r⟩ := R.seq hx h1
      obtain ⟨w', e2, r2⟩ := r.atI h2
      rcases hq with hq | hq
      · exact ix_list value slice pins s σ H _ _ v u Q I rx ry ⟨a, ys, i, w', rfl, rfl, hq, e2, q _ r2⟩ hs
      · exact ix_tup value slice pins s σ H _ _ v u Q I rx ry ⟨a, ys, i, w', rfl, rfl, hq, e2, q _ r2⟩ hs
  | @tup ks b zs hb hz =>
    cases hx with
    | @ref n a hm =>
      simp only [aIx] at e
      split at e
      · rename_i fz kvs hA
        cases hk : keyOf (.tup ks) with
        | none => rw [hk] at e; cases e
        | some k =>
          rw [hk] at e
          have e : aGet kvs k = some w := e
          rcases R.dget hm hA (.tup hb hz) hk with ⟨h1, _⟩ | ⟨w', z, h1, g, h3⟩
          · rw [h1] at e; cases e
          · rw [h1] at e; cases e
            obtain rfl : v = Value.ref a := rx
            exact ixTail (dict_typeIs I g) PySem.F.slot_dict_getitem.lookup hs (d_getItem (by omega) I g ry fun w' s3 I3 rw' => ⟨z, H, I3, rw', q _ h3⟩)
      · cases e
    | _ => simp [aIx] at e
  | _ => simp [aIx] at e
theorem RVs.cut {K : PySem.W.Frag} {xs : List AV} {ys : List V} (r : RVs K H m xs ys) (lo hi : Option Int) : RVs K H m (Ev.cut xs lo hi) (cutV ys lo hi) := by
  unfold Ev.cut cutV
  rw [r.length]
  exact (r.drop _).take _
theorem cut_all {α : Type} {xs : List α} {lo hi : Option Int} (h : HT.sIx xs.length 0 lo = 0 ∧ HT.sIx xs.length xs.length hi = xs.length) : Ev.cut xs lo hi = xs := by
  unfold Ev.cut
  rw [h.1, h.2, List.drop_zero, Nat.sub_zero, List.take_length]
def rSlE (K : PySem.W.Frag) : V → Option Int → Option Int → Hp → VK → Prop := fun x lo hi H Q => ∃ m A ax, RelH K m A H ∧ RV K H m ax x ∧ Fin K m H (aSl ax lo hi A) Q
theorem sl_A : SlR X (rSlE X.K) := by
  rintro pins s σ H x v vl vu lo hi sl Q I rx hs pl pu ⟨m, A, ax, R, hx, fin⟩
  cases hx with
  | str z =>
    simp only [aSl] at fin
    split at fin
    · rename_i hz
      exact sl_str pins s σ H _ v vl vu lo hi sl Q I rx hs pl pu ⟨z, rfl, hz, fin.here R (.str _)⟩
    · exact False.elim fin
  | @tup xs a ys ht r =>
    refine sl_tupA pins s σ H _ v vl vu lo hi sl Q I rx hs pl pu ⟨a, ys, rfl, .of ht, fun e => ?_, fun _ p np => fin.tupNew R (r.cut lo hi) np⟩
    rw [← r.length] at e
    have fin : Fin X.K m H (.ok (.tup (Ev.cut xs lo hi)) A) Q := fin
    rw [cut_all e] at fin
    exact fin.here R (.tup ht r)
  | @fl xs a ys ht r => exact sl_list pins s σ H _ v vl vu lo hi sl Q I rx hs pl pu ⟨a, ys, rfl, ht.l, fun p np => Fin.lstNew R fin (r.cut lo hi) np⟩
  | @ref n a hm =>
    simp only [aSl] at fin
    cases q : A[n]? with
    | none => rw [q] at fin; exact False.elim fin
    | some o =>
      rw [q] at fin
      have ro := R.of hm q
      cases o with
      | lst ys => obtain ⟨zs, e, r⟩ := ro; exact sl_list pins s σ H _ v vl vu lo hi sl Q I rx hs pl pu ⟨a, zs, rfl, .of e, fun p np => fin.lstNew R (r.cut lo hi) np⟩
      | _ => exact False.elim fin
  | _ => exact False.elim fin
/-- o[i] = v -/
theorem set_A (hu : X.A.units + 65 < cLine) : PSet X (fun o i v H Q => ∃ m A ao ai av A', RelH X.K m A H ∧ RV X.K H m ao o ∧ RV X.K H m ai i ∧ RV X.K H m av v ∧ aSet ao ai av A = some A' ∧ ∀ H', Tr m H m H' → RelH X.K m A' H' → Q H') := by
  rintro pins s σ H o i v ov iv u Q I ro ri rv ⟨m, A, ao, ai, av, A', R, ho, hi, hv, e, q⟩
  cases ho with
  | @ref n a hm =>
    cases hi with
    | int k =>
      simp only [aSet] at e
      cases q1 : A[n]? with
      | none => rw [q1] at e; cases e
      | some ob =>
        rw [q1] at e
        cases ob with
        | lst xs =>
          obtain ⟨ys, f, r⟩ := R.of hm q1
          simp only at e
          cases q2 : ixN xs.length k with
          | none => rw [q2] at e; cases e
          | some j =>
            rw [q2] at e
            cases e
            rw [r.length] at q2
            obtain ⟨t, R'⟩ := R.putL hm f (RVs.set hv j r)
            exact set_list pins s σ H _ _ _ ov iv u _ I ro ri rv ⟨a, ys, k, j, rfl, rfl, f, q2, q _ t R'⟩
        | _ => cases e
    | @tup ks b zs hb hz =>
      simp only [aSet] at e
      split at e
      · rename_i kvs k hA hk
        split at e
        · rename_i hl
          cases e
          obtain ⟨ws, e1 | ⟨z, _⟩, r⟩ := R.of hm hA
          · obtain ⟨b', eb, hb'⟩ := RV.key (.tup hb hz) hk
            cases eb
            obtain ⟨t, R'⟩ := R.put hm (u := .dT (putK ws k v)) (o := .dT false (aPut kvs k av)) (fun H' _ e st => ⟨putK ws k v, .inl ⟨rfl, e⟩, Ents.put (Paired.mapP r fun p q z => ⟨z.1, z.2.mono0 st⟩) k (hv.mono0 st)⟩) (fun xs e => by rw [e1.2] at e; cases e) (fun q v e => by rw [e1.2] at e; cases e)
            obtain rfl : ov = Value.ref a := ro
            have hl' : ws.length < sizeLine := by rw [← Ents.length r]; exact hl
            exact d_setItem (by omega) I (DPut.t e1.2 hb' hl') ri rv fun s' I' => ⟨_, I', q _ t R'⟩
          · cases z
        · cases e
      · cases e
    | _ => cases e
  | _ => cases e
end
end Ev


set_option linter.all false
set_option maxRecDepth 100000
namespace Ev
open PySem PySem.Spec PyProof.Rows L2
section
variable {X : Cx} {pins : List (Addr × Obj)} {σ : L2.St} {H : Hp} {s : Shared} {d : Addr} {ws : List (List Key × V)}
theorem dT_upd {u : HO} (ok : ObjOk X.prog X.w H s.heap d (.dT ws)) (hn : ∀ ys, H d ≠ some (.tup ys)) : ObjOk X.prog X.w (upd H d u) s.heap d (.dT ws) := by
  obtain ⟨z, y, xs, r, o, es, ep, h1, h2, h3, h4, h5⟩ := ok
  refine ⟨z, y, xs, Paired.mapP r fun p q w => ⟨w.1, ?_, w.2.2⟩, o, es, ep, h1, h2, h3, h4, h5⟩
  rw [upd_ne (fun z => hn _ (z ▸ w.2.1))]
  exact w.2.1
theorem ok_upd {h : Heap} {v : HO} (h1 : ∀ ys, H d ≠ some (.tup ys)) (h2 : ∀ a, H d ≠ some (.own a)) : ∀ {b : Addr} {u : HO}, ObjOk X.prog X.w H h b u → ObjOk X.prog X.w (upd H d v) h b u
  | _, .lst _, k => k
  | _, .tup _, k => k
  | _, .dK _, k => k
  | _, .dT _, ⟨z, y, xs, r, o, es, ep, k⟩ => ⟨z, y, xs, Paired.mapP r fun p q w => ⟨w.1, by rw [upd_ne (fun z => h1 _ (z ▸ w.2.1))]; exact w.2.1, w.2.2⟩, o, es, ep, k⟩
  | _, .set _ _, k => k
  | _, .ins _ _ _, ⟨k, r⟩ => ⟨by rw [upd_ne (fun z => h2 _ (z ▸ k))]; exact k, r⟩
  | _, .own _, k => k
  | _, .xd _, k => k
  | _, .rng _ _, k => k
  | _, .frz _ u, ⟨k, r⟩ => ⟨k, ok_upd h1 h2 (u := u) r⟩
  | _, .tbl _, k => k
  | _, .met _ _, k => k
  | _, .ext _, k => k
theorem freeze (I : Inv X pins σ H s) (e : H d = some (.dT ws)) : ∃ o, s.heap.get? d = some o ∧ Inv X pins σ (upd H d (.frz o (.dT ws))) s := by
  have ok : ObjOk X.prog X.w H s.heap d (.dT ws) := I.hok d _ e
  obtain ⟨_, _, xs, _, o, es, ep, h1, _⟩ := id ok
  have hn : ∀ ys, H d ≠ some (.tup ys) := fun ys z => by rw [e] at z; cases z
  exact ⟨o, h1, I.write (x := d) (e := d) (o := .frz o (.dT ws)) (h' := s.heap) (t' := s.toks) (by rw [e]; exact True.intro) (.inl rfl) (fun _ _ _ q => q) ⟨o, h1⟩ ⟨h1, dT_upd ok hn⟩⟩
/-- what was not frozen at a def's entry may be thawed -/
theorem thaw {o : Obj} (I : Inv X pins σ H s) (e : H d = some (.frz o (.dT ws))) (h0 : ∀ q u, X.H_0 d ≠ some (.frz q u)) : Inv X pins σ (upd H d (.dT ws)) s := by
  have ok : ObjOk X.prog X.w H s.heap d (.dT ws) := (I.hok d _ e).2
  have hn : ∀ ys, H d ≠ some (.tup ys) := fun ys z => by rw [e] at z; cases z
  have hne : ∀ b, H b = none → b ≠ d := fun b n z => by rw [z, e] at n; cases n
  have fr : ∀ b, H b = none → upd H d (.dT ws) b = none := fun b n => by rw [upd_ne (hne b n)]; exact n
  refine ⟨I.ok, I.os, I.bare, ⟨I.base.keep, I.base.slot, fun b q h1 h2 h3 => fr b (I.base.free b q h1 h2 h3), I.base.there, fun b xs q => ?_, fun b q u z => ?_, fun b ps q => ?_⟩, I.loc, I.cell, fr _ I.free, fun x c q => fr _ (I.freeC x c q), fun p hp => ⟨(I.pin p hp).1, fr _ (I.pin p hp).2.1, (I.pin p hp).2.2⟩, fun b u q => ?_, I.len⟩
  · have t := I.base.tups b xs q
    have hb : b ≠ d := fun z => by rw [z] at t; exact hn xs t
    rw [upd_ne hb]; exact t
  · have := I.base.frzs b q u z
    by_cases hb : b = d
    · subst hb; exact absurd z (h0 q u)
    · rw [upd_ne hb]; exact this
  · obtain ⟨more, h⟩ := I.base.tbls b ps q
    exact ⟨more, by rw [upd_ne (fun z => by rw [z, e] at h; cases h)]; exact h⟩
  · by_cases hb : b = d
    · subst hb
      rw [upd_same] at q
      cases q
      exact dT_upd ok hn
    · rw [upd_ne hb] at q
      exact ok_upd hn (fun a z => by rw [e] at z; cases z) (I.hok b u q)
/-- the end of a statement may thaw what was not frozen at its start -/
def thawN (H0 : Hp) (D : Ends) : Ends := { D with nx := fun σ' H' => D.nx σ' H' ∨ ∃ d o ws, (∀ q u, H0 d ≠ some (.frz q u)) ∧ H' d = some (.frz o (.dT ws)) ∧ D.nx σ' (upd H' d (.dT ws)) }
theorem ps_scope {st : Stmt} {t : TS} (h : PS X st t) : PS X st (fun D σ H => t (thawN H D) σ H) := ⟨fun pins s σ H D I q => thn (h.run pins s σ H _ I q) fun f s' r => by
  cases f with
  | next =>
    obtain ⟨σ', H', I', z⟩ := r
    rcases z with z | ⟨d, o, ws, h0, e, z⟩
    · exact ⟨σ', H', I', z⟩
    · exact ⟨σ', _, thaw I' e (fun q u w => h0 q u (I.base.frzs d q u w)), z⟩
  | brk => exact r
  | cont => exact r
  | ret u => exact r⟩
/-- the keys of a dict of tuple keys, which is frozen for the walk -/
def iDct (td : TE) : TI := fun σ H R => td σ H fun x H1 => ∃ d ws, x = .ref d ∧ H1 d = some (.dT ws) ∧ ∀ o, R (Itkt d o ws) (upd H1 d (.frz o (.dT ws)))
theorem pi_dct {tg e : Expr} {td : TE} (he : PE X e td) : PI X tg e (iDct td) := by
  refine ⟨fun pins s σ H R I h => thn (he.run pins s σ H _ I h) fun u s1 ⟨x, H1, I1, rx, d, ws, ex, hd, q⟩ => ?_⟩
  subst ex
  obtain rfl : u = Value.ref d := rx
  obtain ⟨o, ho, I2⟩ := freeze I1 hd
  obtain ⟨hs, hgd, hx, es, ep, hdt, hsz, ent⟩ := I2.frzT upd_same
  refine iter_keys hs hgd hx hdt (pi_one (tk := s1.toks) I2 _ (turn_keysT _ hdt) ⟨_, Heap.get?_push_size _ rfl, rfl, ?_⟩ (q o))
  rw [hsz]; rfl
/-- what a loop walks: a list, a tuple, a dict's keys (frozen for the walk, or frozen before) -/
def iSeqD (K : PySem.W.Frag) (tl : TE) : TI := fun σ H R => tl σ H fun x H1 => ∃ a, x = .ref a ∧ (((∃ xs, SqL K H1 a xs) ∧ R (Itl K a) H1) ∨ ((∃ xs, SqT K H1 a xs) ∧ R (Itt K a) H1) ∨
  (∃ ws, H1 a = some (.dT ws) ∧ ∀ o, R (Itkt a o ws) (upd H1 a (.frz o (.dT ws)))) ∨ ∃ o ws, H1 a = some (.frz o (.dT ws)) ∧ R (Itkt a o ws) H1)
theorem pi_seqD {tg l : Expr} {tl : TE} (hl : PE X l tl) : PI X tg l (iSeqD X.K tl) := by
  refine ⟨fun pins s σ H R I h => thn (hl.run pins s σ H _ I h) fun v s1 ⟨x, H1, I1, r1, a, e, q⟩ => ?_⟩
  subst e
  cases r1
  rcases q with ⟨⟨xs, hq⟩, q⟩ | ⟨⟨xs, hq⟩, q⟩ | ⟨ws, hd, q⟩ | ⟨o, ws, hd, q⟩
  · obtain ⟨its, rv, p, hz⟩ := I1.list hq
    refine wpAny_pyIter_list p.isList ⟨s1.heap.objs.size, [s1.heap.objs.size], _, _, H1, rfl, I1.kept (t' := s1.toks) fun b o e => Heap.get?_push_of_some _ e, turn_list a _, ⟨_, Heap.get?_push_size _ rfl, rfl, rfl⟩, fun b hb => ?_, q⟩
    obtain rfl : b = s1.heap.objs.size := by simpa using hb
    exact I1.fpOk (Nat.le_refl _) (I1.hok.fresh (Nat.le_refl _))
  · obtain ⟨its, rv, p, hz⟩ := I1.tuple hq
    refine wpAny_pyIter_tuple (show s1.heap.IsTuple a its.toArray from p) ⟨s1.heap.objs.size, [s1.heap.objs.size], _, _, H1, rfl, I1.kept (t' := s1.toks) fun b o e => Heap.get?_push_of_some _ e, turn_tuple a _, ⟨_, Heap.get?_push_size _ rfl, rfl, rfl⟩, fun b hb => ?_, q⟩
    obtain rfl : b = s1.heap.objs.size := by simpa using hb
    exact I1.fpOk (Nat.le_refl _) (I1.hok.fresh (Nat.le_refl _))
  · obtain ⟨o, ho, I2⟩ := freeze I1 hd
    obtain ⟨hs, hgd, hx, es, ep, hdt, hsz, ent⟩ := I2.frzT upd_same
    refine iter_keys hs hgd hx hdt (pi_one (tk := s1.toks) I2 _ (turn_keysT _ hdt) ⟨_, Heap.get?_push_size _ rfl, rfl, ?_⟩ (q o))
    rw [hsz]; rfl
  · obtain ⟨hs, hgd, hx, es, ep, hdt, hsz, ent⟩ := I1.frzT hd
    refine iter_keys hs hgd hx hdt (pi_one (tk := s1.toks) I1 _ (turn_keysT _ hdt) ⟨_, Heap.get?_push_size _ rfl, rfl, ?_⟩ q); rw [hsz]; rfl
/-- an entry is stored -/
theorem dset_T {kvs : List (List Key × V)} {k : List Key} {b : Addr} {v : V} {r : Value} {A : Around} {E : Value → Shared → Prop} {Q : Unit → Shared → Prop} (hu : A.units < cLine) (I : Inv X pins σ H s) (e : H d = some (.dT kvs)) (eb : H b = some (.tup (k.map kV)))
    (l : kvs.length < sizeLine) (rv : RelV v r) (h : ∀ s', Inv X pins σ (upd H d (.dT (putK kvs k v))) s' → Q () s') : wpAny (model X.prog X.w) A (dictSet d (.ref b) r) Q E s := by
  obtain ⟨z, hd, xs, rel, dd⟩ := dt_of I.hok e
  have hz : xs.length ≤ sizeLine := by rw [← Paired.length rel]; exact z
  have hl : (putK kvs k v).length ≤ sizeLine := by have := length_putK kvs k v; omega
  refine wpAny_dictSet_heap (hsz := hz) (knd := tupleKind (mixKind X.prog X.w)) hu (key_of I.hok eb) dd fun h' dd' hs => h _ ?_
  obtain ⟨q, es, ep, hq, h2, h3, h4, _, h5⟩ := dd'
  refine d_write I (by rw [e]; exact True.intro) hs ⟨q, hq⟩ ⟨hl, hd, _, (rel.put k eb rv).keeps fun c ys ec => ?_, q, es, ep, hq, h2, h3, h4, h5⟩
  rw [upd_ne (ne_of ec e (fun z => nomatch z))]
  exact ec
def mergeT (kvs : List (List Key × V)) (more : List (List Key × Addr × V)) : List (List Key × V) := more.foldl (fun acc kv => putK acc kv.1 kv.2.2) kvs
theorem upd_upd {a : Addr} {u v : HO} : upd (upd H a u) a v = upd H a v := by
  funext b
  by_cases h : b = a
  · subst h; rw [upd_same, upd_same]
  · rw [upd_ne h, upd_ne h, upd_ne h]
theorem stall_T {A : Around} {E : Value → Shared → Prop} (hu : A.units < cLine) : ∀ (more : List (List Key × Addr × V)) (vs : List (Value × Value)) (kvs : List (List Key × V)) (H : Hp) (s : Shared) (Q : PUnit → Shared → Prop), Inv X pins σ H s → H d = some (.dT kvs) →
    (∀ kv ∈ more, H kv.2.1 = some (.tup (kv.1.map kV))) → VV (more.map fun kv => (.ref kv.2.1, kv.2.2)) vs → kvs.length + more.length ≤ sizeLine → (∀ s', Inv X pins σ (upd H d (.dT (mergeT kvs more))) s' → Q PUnit.unit s') →
    wpAny (model X.prog X.w) A (storeAll d vs) Q E s := by
  intro more
  induction more with
  | nil =>
    intro vs kvs H s Q I e _ r _ h
    rw [List.map_nil] at r
    cases r
    unfold storeAll
    rw [List.forIn_nil]
    have : upd H d (.dT kvs) = H := by
      funext b
      by_cases hb : b = d
      · subst hb; rw [upd_same, e]
      · rw [upd_ne hb]
    refine wpAny_pure (h s ?_)
    show Inv X pins σ (upd H d (.dT kvs)) s
    rw [this]; exact I
  | cons p more ih =>
    intro vs kvs H s Q I e hk r hl h
    rw [List.map_cons] at r
    rw [List.length_cons] at hl
    cases r with
    | @cons _ q _ qs h1 t =>
      obtain ⟨u, w⟩ := q
      obtain rfl : u = Value.ref p.2.1 := h1.1
      unfold storeAll
      rw [List.forIn_cons]
      have eb := hk p (by simp)
      refine wpAny_bind (wpAny_bind (dset_T hu I e eb (by omega) h1.2 fun s' I' => wpAny_pure ?_))
      refine ih qs (putK kvs p.1 p.2.2) _ s' Q I' upd_same (fun kv hkv => ?_) t (by have := length_putK kvs p.1 p.2.2; omega) fun s2 I2 => h s2 ?_
      · have := hk kv (List.mem_cons_of_mem _ hkv)
        rw [upd_ne (ne_of this e (fun z => nomatch z))]; exact this
      · rw [upd_upd] at I2; exact I2
/-- {k: v, ..} with tuple keys -/
def tDispT (trs : List (TE × TE)) : TE := fun σ H Q => ∀ p, H p = none → tPairs trs σ (upd H p (.dT [])) fun ps H2 => H2 p = some (.dT []) ∧ ∃ kvs : List (List Key × Addr × V), ps = kvs.map (fun kv => (.ref kv.2.1, kv.2.2)) ∧ (∀ kv ∈ kvs, H2 kv.2.1 = some (.tup (kv.1.map kV))) ∧
  kvs.length ≤ 15 ∧ Q (.ref p) (upd H2 p (.dT (mergeT [] kvs)))
theorem pe_dispT {pos : Pos} {keys : List (Option Expr)} {values : List Expr} {trs : List (TE × TE)} (hu : X.A.units < cLine) (h : PPs X pos keys values trs) (hall : keys.all (·.isSome) = true) (hl : keys.length = values.length) (h0 : keys ≠ [])
    (h15 : keys.length ≤ 15) : PE X (.Dict keys values pos) (tDispT trs) := by
  refine ⟨fun pins s σ H Q I q => ?_⟩
  have hn := I.hok.fresh (Nat.le_refl s.heap.objs.size)
  have I1 := I.laid (a := s.heap.objs.size) (o := .dT []) (h' := s.heap.push { cls := .type "dict", data := .dict #[] }) (t' := s.toks) (fun _ _ q => Heap.get?_push_of_some _ q) (Nat.le_refl _) (dt_empty s.heap I.big)
  refine wpAny_Dict_any hall hl h0 h15 (thn (h.run pins _ σ _ _ I1 (q _ hn)) fun ws s2 ⟨ps, H2, I2, rel, e, kvs, ep, ek, lk, q2⟩ => ?_)
  subst ep
  exact stall_T hu kvs ws [] H2 s2 _ I2 e ek rel (by rw [sizeLine_eq, List.length_nil]; omega) fun s3 I3 => ⟨.ref s.heap.objs.size, _, I3, rfl, q2⟩
end
end Ev


set_option linter.all false
set_option maxRecDepth 100000
set_option maxHeartbeats 4000000
namespace Ev
open PySem PySem.Spec PyProof.Rows L2 Srt

/-! ### sorting -/
section
variable {α : Type} {lt : α → α → Bool}
theorem ins_split (O : SrtO.Swo lt) (y : α) : ∀ {S : List α}, SrtO.Srtd lt S → ∃ M N, S = M ++ N ∧ ins lt y S = M ++ y :: N ∧ (∀ x ∈ M, lt y x = false) ∧ ∀ x ∈ N, lt y x = true
  | [], _ => ⟨[], [], rfl, rfl, fun _ h => (by cases h), fun _ h => (by cases h)⟩
  | z :: r, h => by
    unfold ins
    cases q : lt y z with
    | true => exact ⟨[], z :: r, rfl, by simp, fun _ h => (by cases h), O.lt_all h q⟩
    | false =>
      obtain ⟨M, N, e1, e2, e3, e4⟩ := ins_split O y (List.pairwise_cons.mp h).2
      refine ⟨z :: M, N, by rw [e1]; rfl, by simp [e2], fun x hx => ?_, e4⟩
      rcases List.mem_cons.mp hx with e | hx
      · rw [e]; exact q
      · exact e3 x hx
theorem isort_ok (O : SrtO.Swo lt) (l : List α) : SrtO.Srtd lt (isort lt l) ∧ SrtO.Stb lt (isort lt l) l := by
  have : ∀ (l S P : List α), SrtO.Srtd lt S → SrtO.Stb lt S P → SrtO.Srtd lt (l.foldl (fun acc x => ins lt x acc) S) ∧ SrtO.Stb lt (l.foldl (fun acc x => ins lt x acc) S) (P ++ l) := by
    intro l
    induction l with
    | nil => intro S P h1 h2; rw [List.append_nil]; exact ⟨h1, h2⟩
    | cons y r ih =>
      intro S P h1 h2
      obtain ⟨M, N, e1, e2, e3, e4⟩ := ins_split O y h1
      rw [e1] at h1 h2
      have q := ih (ins lt y S) (P ++ [y]) (by rw [e2]; exact SrtO.ins_srtd O h1 e3 e4) (by rw [e2]; exact SrtO.ins_stb O e4 h2)
      rw [List.append_assoc] at q
      exact q
  have q := this l [] [] List.Pairwise.nil (SrtO.Stb.refl [])
  rw [List.nil_append] at q
  exact q
theorem ins_map {β : Type} {lt' : β → β → Bool} (f : α → β) (y : α) : ∀ {l : List α}, (∀ x ∈ l, lt y x = lt' (f y) (f x)) → (ins lt y l).map f = ins lt' (f y) (l.map f)
  | [], _ => rfl
  | z :: r, h => by
    unfold ins
    rw [h z (by simp)]
    show (List.map f (if lt' (f y) (f z) = true then _ else _)) = if lt' (f y) (f z) = true then _ else _
    split
    · rfl
    · rw [List.map_cons, ins_map f y fun x hx => h x (List.mem_cons_of_mem _ hx)]
theorem ins_mem (y : α) : ∀ {l : List α} {x : α}, x ∈ ins lt y l → x = y ∨ x ∈ l
  | [], x, h => .inl (List.mem_singleton.mp h)
  | z :: r, x, h => by
    unfold ins at h
    split at h
    · rcases List.mem_cons.mp h with e | h
      · exact .inl e
      · exact .inr h
    · rcases List.mem_cons.mp h with e | h
      · exact .inr (by rw [e]; simp)
      · rcases ins_mem y h with e | h
        · exact .inl e
        · exact .inr (List.mem_cons_of_mem _ h)
theorem isort_map {β : Type} {lt' : β → β → Bool} (f : α → β) (l : List α) (h : ∀ x ∈ l, ∀ y ∈ l, lt x y = lt' (f x) (f y)) : (isort lt l).map f = isort lt' (l.map f) := by
  have : ∀ (r S : List α), (∀ x ∈ r, x ∈ l) → (∀ x ∈ S, x ∈ l) → (r.foldl (fun acc x => ins lt x acc) S).map f = (r.map f).foldl (fun acc x => ins lt' x acc) (S.map f) := by
    intro r
    induction r with
    | nil => intro S _ _; rfl
    | cons y r ih =>
      intro S h1 h2
      show (r.foldl _ (ins lt y S)).map f = (r.map f).foldl _ (ins lt' (f y) (S.map f))
      rw [ih (ins lt y S) (fun x hx => h1 x (List.mem_cons_of_mem _ hx)) fun x hx => ?_, ins_map f y fun x hx => h y (h1 y (by simp)) x (h2 x hx)]
      rcases ins_mem y hx with e | hx
      · rw [e]; exact h1 y (by simp)
      · exact h2 x hx
  exact this l [] (fun _ h => h) (fun _ h => (by cases h))
end
theorem lexI_irr : ∀ a : List Int, HT.lexLt a a = false
  | [] => rfl
  | x :: r => by rw [HT.lexLt_cons, if_pos rfl]; exact lexI_irr r
theorem lexI_asym : ∀ a b : List Int, HT.lexLt a b = true → HT.lexLt b a = false
  | [], [], h => (by cases h)
  | [], _ :: _, _ => rfl
  | _ :: _, [], h => (by cases h)
  | x :: xs, y :: ys, h => by
    rw [HT.lexLt_cons] at h ⊢
    by_cases e : x = y
    · subst e
      rw [if_pos rfl] at h ⊢
      exact lexI_asym xs ys h
    · rw [if_neg e] at h
      rw [if_neg (Ne.symm e)]
      have := of_decide_eq_true h
      exact decide_eq_false (by omega)
theorem lexI_tr : ∀ a b c : List Int, HT.lexLt b a = false → HT.lexLt c b = false → HT.lexLt c a = false
  | [], [], c, _, h2 => h2
  | [], _ :: _, [], _, _ => rfl
  | [], _ :: _, _ :: _, _, _ => rfl
  | _ :: _, [], _, h1, _ => (by cases h1)
  | x :: xs, y :: ys, [], h1, h2 => (by cases h2)
  | x :: xs, y :: ys, z :: zs, h1, h2 => by
    rw [HT.lexLt_cons] at h1 h2 ⊢
    by_cases e1 : y = x
    · subst e1
      rw [if_pos rfl] at h1
      by_cases e2 : z = y
      · subst e2
        rw [if_pos rfl] at h2 ⊢
        exact lexI_tr xs ys zs h1 h2
      · rw [if_neg e2] at h2 ⊢
        exact h2
    · rw [if_neg e1] at h1
      have h1 := of_decide_eq_false h1
      by_cases e2 : z = y
      · subst e2
        rw [if_neg e1]
        exact decide_eq_false h1
      · rw [if_neg e2] at h2
        have h2 := of_decide_eq_false h2
        rw [if_neg (by omega)]
        exact decide_eq_false (by omega)
theorem swo_lexI {α : Type} (k : α → List Int) : SrtO.Swo fun x y => HT.lexLt (k x) (k y) := ⟨fun _ _ h => lexI_asym _ _ h, fun _ _ _ h1 h2 => lexI_tr _ _ _ h1 h2⟩
/-- a tuple of ints that stands -/
def IsTI (h : Heap) (v : Value) (ns : List Int) : Prop := ∃ (a : Addr) (o : Obj) (xs : Array Value) (n : Nat), v = .ref a ∧ h.get? a = some o ∧ o.cls = .type "tuple" ∧ o.data = .seq xs n ∧ IntsAre xs.toList ns
theorem IsTI.keeps {h h' : Heap} {v : Value} {ns : List Int} (p : IsTI h v ns) (k : ∀ b o, h.get? b = some o → o.cls = .type "tuple" → h'.get? b = some o) : IsTI h' v ns := by
  obtain ⟨a, o, xs, n, e, ho, hc, hd, i⟩ := p
  exact ⟨a, o, xs, n, e, k _ _ ho hc, hc, hd, i⟩
section
variable {prog : Program} {w : World} {A : Around} {E : Value → Shared → Prop} {s : Shared}
theorem lex_intsG {b fin : Bool} {Q : Bool → Shared → Prop} {xs ys : List Value} {ns ms : List Int} (i : Nat) (hx : IntsAre xs ns) (hy : IntsAre ys ms) (hf : fin = decide (xs.length < ys.length)) (h : Q (HT.lexLt ns ms) s) : PySem.W.KatLex prog w A b fin Q (xs.zip ys) i s := by
  induction hx generalizing ys ms i with
  | nil =>
    cases hy with
    | nil => subst hf; exact PySem.W.kat_nil h
    | cons q u hy => subst hf; rw [HT.lexLt_nil_cons] at h; refine PySem.W.kat_nil ?_; simpa using h
  | @cons p t xs ns hx ih =>
    cases hy with
    | nil => subst hf; rw [HT.lexLt_cons_nil] at h; refine PySem.W.kat_nil ?_; simpa using h
    | @cons q u ys ms hy =>
      have hf' : fin = decide (xs.length < ys.length) := by rw [hf]; simp
      show PySem.W.KatLex prog w A b fin Q ((Value.int p t, Value.int q u) :: xs.zip ys) i s
      refine PySem.W.kat_cons (wpAny_eqBool_int ?_)
      rw [HT.lexLt_cons] at h
      by_cases e : p = q
      · subst e
        rw [beq_self_eq_true]
        rw [if_pos rfl] at h
        exact PySem.W.kat_yes (ih (i + 1) hy hf' h)
      · rw [show (p == q) = false from beq_eq_false_iff_ne.mpr e]
        rw [if_neg e] at h
        exact PySem.W.kat_no (TS.oneLt_ints _ h)
theorem ti_cmp {vs : List Value} {k : Value → List Int} (hp : ∀ v ∈ vs, IsTI s.heap v (k v)) : SrtO.Cmp prog w A s (tuples' true) (fun p => p.1 ∈ vs) (SrtO.lt2 fun v u => HT.lexLt (k v) (k u)) := by
  intro p q hm hm'
  obtain ⟨a, o, xs, n, e, ho, hc, hd, i⟩ := hp _ hm
  obtain ⟨a', o', ys, n', e', ho', hc', hd', i'⟩ := hp _ hm'
  show wpAny (model prog w) A (keyLt' (tuples' true) p.1 q.1) (fun r s' => s' = s ∧ r = HT.lexLt (k p.1) (k q.1)) (fun _ _ => False) s
  generalize k p.1 = ns at i ⊢
  generalize k q.1 = ms at i' ⊢
  rw [e, e']
  refine PySem.W.kat_lt ho hd ho' hd' ?_
  exact lex_intsG 0 i i' (by simp) ⟨rfl, rfl⟩
theorem ti_firsts {h : Heap} {k : Value → List Int} : ∀ {vs : List Value}, (∀ v ∈ vs, IsTI h v (k v) ∧ k v ≠ []) → ∃ fs : List Value, PySem.W.KatTups h vs fs ∧ fs.length = vs.length ∧ ∀ f ∈ fs, ∃ x t, f = Value.int x t
  | [], _ => ⟨[], PySem.W.KatTups.nil, rfl, fun _ hm => by simp at hm⟩
  | v :: vs, hp => by
    obtain ⟨fs, h1, h2, h3⟩ := ti_firsts (vs := vs) fun v' hm => hp v' (List.mem_cons_of_mem _ hm)
    obtain ⟨⟨a, o, xs, n, e, ho, hc, hd, i⟩, hne⟩ := hp v (List.mem_cons_self ..)
    obtain ⟨y, ys, ey⟩ : ∃ y ys, xs.toList = y :: ys := by
      cases q : xs.toList with
      | nil =>
        rw [q] at i
        have l := i.length
        exact absurd (List.length_eq_zero_iff.mp (by rw [← l]; rfl)) hne
      | cons y ys => exact ⟨y, ys, rfl⟩
    obtain ⟨m, t, hy⟩ := i.all y (by rw [ey]; exact List.mem_cons_self ..)
    subst e
    refine ⟨y :: fs, PySem.W.KatTups.cons ho hc hd ?_ h1, by rw [List.length_cons, List.length_cons, h2], fun f hm => ?_⟩
    · have z := congrArg (fun l : List Value => l[0]?) ey
      simpa using z
    · rcases List.mem_cons.mp hm with rfl | hm
      · exact ⟨m, t, hy⟩
      · exact h3 f hm
theorem ti_sortable {a : Addr} {vs : List Value} {k : Value → List Int} (h0 : 0 < vs.length) (hp : ∀ v ∈ vs, IsTI s.heap v (k v) ∧ k v ≠ []) (ha : ∀ o, s.heap.get? a = some o → o.cls ≠ .type "tuple") : SrtO.SortableO prog w A s a vs fun v u => HT.lexLt (k v) (k u) := by
  intro h' keep
  have hp' : ∀ v ∈ vs, IsTI h' v (k v) ∧ k v ≠ [] := fun v hm => ⟨(hp v hm).1.keeps fun b o e c => keep b o (fun z => by subst z; exact ha o e c) e, (hp v hm).2⟩
  obtain ⟨fs, h1, h2, h3⟩ := ti_firsts hp'
  refine ⟨tuples' true, fun Q E hq => ?_, ti_cmp fun v hv => (hp' v hv).1⟩
  refine PySem.W.kat_kind (T := .type "int") h1 (by omega) (fun f hm => ?_) (by rfl) ?_
  · obtain ⟨x, t, rfl⟩ := h3 f hm
    exact PySem.W.Looks.now
  · have e : (Value.type "int" != Value.type "tuple") = true := by first | decide +kernel | rfl | decide
    rw [e]
    exact hq
theorem sorted_ti {l : Addr} {vs : List Value} {k : Value → List Int} {Q : Value → Shared → Prop} (hl : s.heap.IsList l vs.toArray) (hz : vs.length ≤ sizeLine) (hp : ∀ v ∈ vs, IsTI s.heap v (k v) ∧ k v ≠ [])
    (h : ∀ (h' : Heap) (d : Addr) (out : List Value), SrtO.Srtd (fun v u => HT.lexLt (k v) (k u)) out → SrtO.Stb (fun v u => HT.lexLt (k v) (k u)) out vs → (∀ b o, s.heap.get? b = some o → h'.get? b = some o) → s.heap.objs.size ≤ d → (∃ n, h'.get? d = some (seqObj "list" out.toArray n)) → Q (.ref d) { s with heap := h' }) :
    wpAny (model prog w) A (call (.builtin "sorted") [.ref l]) Q E s := by
  refine SrtO.sorted_ord (swo_lexI k) hl hz (fun h2 h₁ a ha kk => ?_) fun out hs hb => ?_
  · refine ti_sortable (s := { s with heap := h₁ }) (by omega) (fun v hm => ⟨(hp v hm).1.keeps fun b o e _ => (kk b o e).2, (hp v hm).2⟩) fun o e => ?_
    have e' : some o = some (seqObj "list" vs.toArray 0) := e.symm.trans ha
    cases e'
    intro c
    exact absurd (Value.type.inj c) (by decide)
  · exact h _ _ out hs hb (fun b o e => sortedAll_old e) (Nat.le_succ _) (sortedAll_at s.heap vs out.toArray)
end
/-- sorted(xs), xs a list of tuples of ints, none empty -/
def rSortedTI (K : PySem.W.Frag) : List V → Hp → VK → Prop := fun vs H Q => ∃ (a : Addr) (xs : List V) (k : V → List Int), vs = [V.ref a] ∧ SqL K H a xs ∧ (∀ x ∈ xs, k x ≠ [] ∧ ∃ t, x = V.ref t ∧ H t = some (.tup ((k x).map V.int))) ∧
  ∀ ys p, SrtO.Srtd (fun x y => HT.lexLt (k x) (k y)) ys → SrtO.Stb (fun x y => HT.lexLt (k x) (k y)) ys xs → H p = none → Q (.ref p) (upd H p (.lst ys))
section
variable {X : Cx}
theorem cr_sortedTI : CallR X (.builtin "sorted") (rSortedTI X.K) := by
  intro pins s σ H vs us Q I r h
  obtain ⟨a, xs, k, rfl, hs, hx, q⟩ := h
  obtain ⟨its, rv, hl, hz⟩ := I.list hs
  obtain ⟨u, rfl, ru⟩ := vals1 r
  obtain rfl : u = Value.ref a := ru
  obtain ⟨e1, e2⟩ := refs_back rv fun x m => by
    obtain ⟨_, t, e, _⟩ := hx x m
    exact ⟨t, e⟩
  refine sorted_ti (k := fun u => k (backV u)) hl.isList (by rw [← rv.length]; exact hz) (fun v hv => ?_) fun h' d out h1 h2 kp hd hn => ?_
  · obtain ⟨t, rfl⟩ := e2 v hv
    have hm : V.ref t ∈ xs := by rw [e1]; exact List.mem_map.mpr ⟨_, hv, rfl⟩
    obtain ⟨hne, t', e, ht⟩ := hx _ hm
    cases e
    obtain ⟨_, its2, r2, o, ho, hc, n, hd⟩ := I.hok _ _ ht
    exact ⟨⟨t, o, its2.toArray, n, rfl, ho, hc, hd, (show IntsAre its2.toArray.toList (k (V.ref t)) by simpa using r2.ints)⟩, hne⟩
  · have h3 : ∀ u ∈ out, ∃ a, u = Value.ref a := fun u hu => e2 u (h2.perm.mem_iff.mp hu)
    obtain ⟨n, hn⟩ := hn
    have hb : SrtO.Stb (fun x y => HT.lexLt (k x) (k y)) (out.map backV) xs := by
      rw [e1]
      exact SrtO.Stb.map (swo_lexI k) backV h2
    refine ⟨.ref d, upd H d (.lst (out.map backV)), I.laid (t' := s.toks) kp hd ⟨?_, out, n, vals_back h3, hn⟩, rfl, q _ d (SrtO.srtd_map h1) hb (I.hok.fresh hd)⟩
    rw [hb.len]
    exact hz
/-! ### list(range(n)) -/
theorem cr_range1 : CallR X (.type "range") (fun vs H Q => ∃ j, vs = [V.int j] ∧ ∀ p, H p = none → Q (.ref p) (upd H p (.rng 0 j))) := by
  intro pins s σ H vs us Q I r h
  obtain ⟨j, rfl, q⟩ := h
  obtain ⟨u, rfl, rj⟩ := vals1 r
  obtain ⟨t, rfl⟩ := rj
  refine call_range_1 ⟨.ref s.heap.objs.size, upd H s.heap.objs.size (.rng 0 j), I.laid (t' := s.toks + 1 + 1) (fun b o e => Heap.get?_push_of_some _ e) (Nat.le_refl _) ?_, rfl, q _ (I.hok.fresh (Nat.le_refl _))⟩
  exact ⟨s.toks, t, s.toks + 1, Heap.get?_push_size _ rfl⟩
theorem cr_list_rng (hc : X.calm = true) : CallR X (.type "list") (fun vs H Q => ∃ p j, vs = [V.ref p] ∧ H p = some (.rng 0 j) ∧ (-(2 ^ 62) ≤ j ∧ j ≤ 1000000) ∧ ∀ l, H l = none → Q (.ref l) (upd H l (.lst ((List.range j.toNat).map fun (k : Nat) => V.int k)))) := by
  intro pins s σ H vs us Q I r h
  obtain ⟨p, j, rfl, hp, hj, q⟩ := h
  obtain ⟨u, rfl, ru⟩ := vals1 r
  obtain rfl : u = Value.ref p := ru
  obtain ⟨t1, t2, t3, ho⟩ := I.hok p _ hp
  have hn : Builtin.Range.rangeSize 0 j 1 = ((j.toNat : Nat) : Int) := by
    unfold Builtin.Range.rangeSize
    rw [if_pos (by decide)]
    split
    · rw [Int.ediv_one]; omega
    · omega
  refine call_list_range (n := j.toNat) (I.ok.hd hc) ho (small_one (by decide) (by decide) hj.1 (by omega)) hn (by omega) fun h' tk acc c kp hS it => ?_
  have hints : IntsAre acc.toList ((List.range j.toNat).map fun (k : Nat) => (k : Int)) := by
    have := PySem.W.kll_ints acc.toList 0 j.toNat (by rw [Array.length_toList]; exact it.1) (fun i v hv => it.2 i v (by rw [Array.getElem?_toList] at hv; exact hv))
    unfold PySem.W.rangeKs at this
    simpa using this
  refine ⟨.ref s.heap.objs.size, upd H s.heap.objs.size (.lst ((List.range j.toNat).map fun (k : Nat) => V.int k)), I.laid (t' := tk) kp (Nat.le_refl _) ⟨?_, acc.toList, c, ?_, by simpa using hS⟩, rfl, q _ (I.hok.fresh (Nat.le_refl _))⟩
  · rw [List.length_map, List.length_range, sizeLine_eq]; omega
  · have := vals_of_ints hints
    rw [List.map_map] at this
    exact this
end
end Ev


set_option linter.all false
set_option maxRecDepth 100000
namespace Ev
open PySem PySem.Spec PyProof.Rows L2

def rCallA (K : PySem.W.Frag) (f : List AV → AH → Res AV) : List V → Hp → VK → Prop := fun vs H Q => ∃ m A axs, RelH K m A H ∧ RVs K H m axs vs ∧ Fin K m H (f axs A) Q
/-- a call whose one argument is a list that nobody else has -/
def rCallF (K : PySem.W.Frag) (f : List AV → AH → Res AV) : List V → Hp → VK → Prop := fun vs H Q => ∃ m A axs ys D, vs = [.ref D] ∧ SqL K H D ys ∧ RelH K m A H ∧ RVs K H m axs ys ∧ Fin K m H (f axs A) Q
theorem kit_tab : ∀ t ∈ ["NoneType", "bool", "int", "str", "tuple", "list", "dict"], ∀ T ∈ ["int", "bool", "str", "tuple", "list", "dict"], kitB t T = isA t T := by decide +kernel
theorem isA_names {t T : String} {b : Bool} (h : isA t T = some b) : T ∈ ["int", "bool", "str", "tuple", "list", "dict"] := by
  unfold isA at h
  split at h
  · rename_i e; subst e; simp
  · split at h
    · rename_i e; rcases e with e | e | e | e | e <;> subst e <;> simp
    · cases h
section
variable {X : Cx} {m : List Addr} {A : AH} {H : Hp}
theorem RelH.ty {K : PySem.W.Frag} (R : RelH K m A H) {x : AV} {y : V} {t : String} (r : RV K H m x y) (h : tyName A x = some t) : (TyX K H y (.type t) ∨ (t = "dict" ∧ ∃ a o ws, y = .ref a ∧ H a = some (.frz o (.dT ws)))) ∧ t ∈ ["NoneType", "bool", "int", "str", "tuple", "list", "dict"] := by
  cases r with
  | non => cases h; exact ⟨.inl <| .base .non, by simp⟩
  | bl b => cases h; exact ⟨.inl <| .base (.bl b), by simp⟩
  | int b => cases h; exact ⟨.inl <| .base (.int b), by simp⟩
  | str b => cases h; exact ⟨.inl <| .base (.str b), by simp⟩
  | ty b => cases h
  | pt _ _ => cases h
  | @tup xs a ys ht hs =>
    cases h
    refine ⟨?_, by simp⟩
    exact .inl (.base (.tup ht))
  | @fl xs a ys ht hs =>
    cases h
    refine ⟨?_, by simp⟩
    rcases ht with ⟨o, e⟩ | ⟨o, its, n, e, hc, _⟩
    · exact .inl (.base (.frz e))
    · exact .inl (.kList e hc)
  | @ref n a hm =>
    simp only [tyName] at h
    cases q : A[n]? with
    | none => simp [q] at h
    | some o =>
      rw [q] at h
      have ro := R.of hm q
      cases o with
      | lst ys => simp only [Option.some.injEq] at h; subst h; obtain ⟨zs, e, r⟩ := ro; exact ⟨.inl <| .base (.lst e), by simp⟩
      | dK ys => simp only [Option.some.injEq] at h; subst h; obtain ⟨zs, e, r⟩ := ro; exact ⟨.inl <| .base (.dK e), by simp⟩
      | dT fz ys =>
        simp only [Option.some.injEq] at h; subst h; obtain ⟨zs, e, r⟩ := ro
        rcases e with ⟨_, e⟩ | ⟨_, o, e⟩
        · exact ⟨.inl (.base (.dT e)), by simp⟩
        · exact ⟨.inr ⟨rfl, a, o, zs, rfl, e⟩, by simp⟩
theorem RVs.inv1 {K : PySem.W.Frag} {xs : List AV} {v : V} (r : RVs K H m xs [v]) : ∃ x, xs = [x] ∧ RV K H m x v := by
  cases r with
  | cons h hs => cases hs; exact ⟨_, rfl, h⟩
theorem cb_isinst : CallR X (.builtin "isinstance") (rCallA X.K (aBif .isinst)) := by
  rintro pins s σ H xs us Q I r ⟨m, A, axs, R, rs, fin⟩
  cases rs with
  | nil => exact False.elim fin
  | cons h1 hs =>
    cases hs with
    | nil => exact False.elim fin
    | cons h2 hs =>
      cases hs with
      | cons _ _ => exact False.elim (by cases h2 <;> exact fin)
      | nil =>
        cases h2 with
        | ty T =>
          simp only [aBif] at fin
          split at fin
          · rename_i t e1
            split at fin
            · rename_i b e2
              obtain ⟨ty, ht⟩ := R.ty h1 e1
              have hk := kit_ty (K := X.K) ((kit_tab t ht T (isA_names e2)).trans e2)
              rcases ty with ty | ⟨rfl, a, o, ws, rfl, e⟩
              · exact call_isi pins s σ H _ us Q I r ⟨_, _, _, _, b, rfl, .ty T, ty, hk, fin.here R (.bl b)⟩
              · obtain ⟨u1, u2, rfl, r1, r2⟩ := vals2 r
                cases r1
                cases r2
                obtain ⟨_, _, _, xs, _, o', es, ep, g1, g2, _⟩ := (show ObjOk X.prog X.w H s.heap a (.frz o (.dT ws)) from I.hok a _ e)
                exact PySem.W.kia_one PySem.W.kitx_dict I.kIn ⟨o', g1, g2.1⟩ hk (fun z => nomatch z) fun tk => ⟨.bl b, H, I.tok tk, rfl, fin.here R (.bl b)⟩
            · exact False.elim fin
          · exact False.elim fin
        | _ => exact False.elim fin
theorem cb_len : CallR X (.builtin "len") (rCallA X.K (aBif .len)) := by
  rintro pins s σ H xs us Q I r ⟨m, A, axs, R, rs, fin⟩
  cases rs with
  | nil => exact False.elim fin
  | @cons ax x _ _ h1 hs =>
    cases hs with
    | cons _ _ => exact False.elim fin
    | nil =>
      have sq : ∀ {ys}, seqOf A ax = some ys → Fin X.K m H (.ok (.int ys.length) A) Q → wpAny (model X.prog X.w) X.A (call (.builtin "len") us) (EP X pins σ Q) X.xe s := fun {ys} e f => by
        obtain ⟨a, zs, rfl, hq, rr⟩ := R.seq h1 e
        rw [rr.length] at f
        exact call_len_seq pins s σ H _ us Q I r ⟨a, zs, rfl, hq, f.here R (.int _)⟩
      cases h1 with
      | str z =>
        simp only [aBif] at fin
        split at fin
        · rename_i hz; exact call_len_str pins s σ H _ us Q I r ⟨z, rfl, hz, fin.here R (.int _)⟩
        · exact False.elim fin
      | tup ht hh => exact sq rfl fin
      | fl ht hh => exact sq rfl fin
      | pt he hd => exact sq rfl fin
      | ref hm =>
        simp only [aBif] at fin
        split at fin
        · rename_i e; exact sq e fin
        · exact False.elim fin
      | _ => exact False.elim fin
theorem cb_abs : CallR X (.builtin "abs") (rCallA X.K (aBif .abs)) := by
  rintro pins s σ H xs us Q I r ⟨m, A, axs, R, rs, fin⟩
  cases rs with
  | nil => exact False.elim fin
  | cons h1 hs =>
    cases hs with
    | cons _ _ => cases h1 <;> exact False.elim fin
    | nil =>
      cases h1 with
      | int i => exact call_abs pins s σ H _ us Q I r ⟨i, rfl, fin.here R (.int _)⟩
      | _ => exact False.elim fin
theorem cb_int : CallR X (.type "int") (rCallA X.K (aBif .int_)) := by
  rintro pins s σ H xs us Q I r ⟨m, A, axs, R, rs, fin⟩
  cases rs with
  | nil => exact False.elim fin
  | cons h1 hs =>
    cases hs with
    | cons _ _ => cases h1 <;> exact False.elim fin
    | nil =>
      cases h1 with
      | int i => exact call_int1 pins s σ H _ us Q I r (.inl ⟨i, rfl, fin.here R (.int _)⟩)
      | bl i => exact call_int1 pins s σ H _ us Q I r (.inr ⟨i, rfl, fin.here R (.int _)⟩)
      | _ => exact False.elim fin
theorem cb_min2 (hc : X.calm = true) : CallR X (.builtin "min") (rCallA X.K (aBif .min2)) := by
  rintro pins s σ H xs us Q I r ⟨m, A, axs, R, rs, fin⟩
  cases rs with
  | nil => exact False.elim fin
  | cons h1 hs =>
    cases hs with
    | nil => cases h1 <;> exact False.elim fin
    | cons h2 hs =>
      cases hs with
      | cons _ _ => cases h1 <;> cases h2 <;> exact False.elim fin
      | nil =>
        cases h1 with
        | int i =>
          cases h2 with
          | int j => exact call_min2 hc pins s σ H _ us Q I r ⟨i, j, rfl, fin.here R (.int _)⟩
          | _ => exact False.elim fin
        | _ => exact False.elim fin
theorem cb_max2 (hc : X.calm = true) : CallR X (.builtin "max") (rCallA X.K (aBif .max2)) := by
  rintro pins s σ H xs us Q I r ⟨m, A, axs, R, rs, fin⟩
  cases rs with
  | nil => exact False.elim fin
  | cons h1 hs =>
    cases hs with
    | nil => cases h1 <;> exact False.elim fin
    | cons h2 hs =>
      cases hs with
      | cons _ _ => cases h1 <;> cases h2 <;> exact False.elim fin
      | nil =>
        cases h1 with
        | int i =>
          cases h2 with
          | int j => exact call_max2 hc pins s σ H _ us Q I r ⟨i, j, rfl, fin.here R (.int _)⟩
          | _ => exact False.elim fin
        | _ => exact False.elim fin
theorem cb_gcd : CallR X (.builtin "math.gcd") (rCallA X.K (aBif .gcd)) := by
  rintro pins s σ H xs us Q I r ⟨m, A, axs, R, rs, fin⟩
  cases rs with
  | nil => exact False.elim fin
  | cons h1 hs =>
    cases hs with
    | nil => cases h1 <;> exact False.elim fin
    | cons h2 hs =>
      cases hs with
      | cons _ _ => cases h1 <;> cases h2 <;> exact False.elim fin
      | nil =>
        cases h1 with
        | int i =>
          cases h2 with
          | int j => exact cr_gcd pins s σ H _ us Q I r ⟨i, j, rfl, fin.here R (.int _)⟩
          | _ => exact False.elim fin
        | _ => exact False.elim fin
theorem cb_listof : CallR X (.type "list") (rCallA X.K (aBif .listof)) := by
  rintro pins s σ H xs us Q I r ⟨m, A, axs, R, rs, fin⟩
  cases rs with
  | nil => exact False.elim fin
  | cons h1 hs =>
    cases hs with
    | cons _ _ => exact False.elim fin
    | nil =>
      simp only [aBif] at fin
      split at fin
      · rename_i e
        obtain ⟨a, zs, rfl, hq, rr⟩ := R.seq h1 e
        exact call_list_of pins s σ H _ us Q I r ⟨a, zs, rfl, hq, fun l nl => fin.lstNew R rr nl⟩
      · exact False.elim fin
theorem cb_tupof : CallR X (.type "tuple") (rCallA X.K (aBif .tupof)) := by
  rintro pins s σ H xs us Q I r ⟨m, A, axs, R, rs, fin⟩
  cases rs with
  | nil => exact False.elim fin
  | cons h1 hs =>
    cases hs with
    | cons _ _ => exact False.elim fin
    | nil =>
      simp only [aBif] at fin
      split at fin
      · exact False.elim fin
      · rename_i hp
        split at fin
        · rename_i e
          obtain ⟨a, zs, rfl, hq, rr⟩ := R.seqH h1 e hp
          rcases hq with hq | hq
          · exact call_tuple_of pins s σ H _ us Q I r ⟨a, zs, rfl, .inl ⟨hq, fun l nl => fin.tupNew R rr nl⟩⟩
          · exact call_tuple_of pins s σ H _ us Q I r ⟨a, zs, rfl, .inr ⟨.of hq, fin.here R (.tup hq rr)⟩⟩
        · exact False.elim fin
/-- tuple(xs) of a list: the object is known to have no dict -/
theorem call_tuple_frz : CallR X (.type "tuple") (fun xs H Q => ∃ p ys, xs = [V.ref p] ∧ SqL X.K H p ys ∧ ∀ l o, o.dict = none → H l = none → Q (.ref l) (upd H l (.frz o (.tup ys)))) := by
  intro pins s σ H xs us Q I r h
  obtain ⟨p, ys, rfl, hq, q⟩ := h
  obtain ⟨u, rfl, rx⟩ := vals1 r
  cases rx
  obtain ⟨its, r', pl, hz⟩ := I.list hq
  have hlen := r'.length
  refine call_tuple_list pl.isList (fun h' kp => ?_) (by simp only [List.size_toArray] <;> omega)
  have I1 : Inv X pins σ H { s with heap := h' } := I.kept (t' := s.toks) kp
  have I2 : Inv X pins σ (upd H h'.objs.size (.frz { cls := .type "tuple", data := .seq its.toArray } (.tup ys))) { s with heap := h'.push { cls := .type "tuple", data := .seq its.toArray } } :=
    I1.laid (t' := s.toks) (fun b o e => Heap.get?_push_of_some _ e) (Nat.le_refl _) (show ObjOk X.prog X.w _ _ _ (.frz { cls := .type "tuple", data := .seq its.toArray } (.tup ys)) from ⟨Heap.get?_push_size _ rfl, hz, its, r', IsTup.new _ _⟩)
  exact ⟨.ref h'.objs.size, _, I2, rfl, q _ _ rfl (I1.hok.fresh (Nat.le_refl _))⟩
theorem mkT_new {K : PySem.W.Frag} {Q : VK} {xs : List AV} {ys : List V} (R : RelH K m A H) (fin : Fin K m H (.ok (mkT xs) A) Q) (rr : RVs K H m xs ys) : (∀ l o, o.dict = none → H l = none → Q (.ref l) (upd H l (.frz o (.tup ys)))) ∨ (∀ l, H l = none → Q (.ref l) (upd H l (.tup ys))) := by
  unfold mkT at fin
  split at fin
  · rename_i z zs e
    have e2 := rr.ofStrs e
    subst e2
    exact .inl fun l o hd nl => fin.ptNew R hd nl
  · exact .inr fun l nl => fin.tupNew R rr nl
theorem RelH.lst {K : PySem.W.Frag} (R : RelH K m A H) {x : AV} {y : V} {xs : List AV} (r : RV K H m x y) (h : lstOf A x = some xs) : ∃ a ys, y = .ref a ∧ SqL K H a ys ∧ RVs K H m xs ys := by
  cases r with
  | @fl ys a zs ht hs => cases h; exact ⟨a, zs, rfl, ht.l, hs⟩
  | @ref n a hm =>
    simp only [lstOf] at h
    split at h
    · rename_i e
      cases h
      obtain ⟨zs, h1, h2⟩ := R.of hm e
      exact ⟨a, zs, rfl, .of h1, h2⟩
    · cases h
  | _ => cases h
theorem RVs.zipRefs {K : PySem.W.Frag} {m : List Addr} {H : Hp} : ∀ {xs : List AV} {ys : List V}, RVs K H m xs ys → ∀ p ∈ xs.zip ys, RV K H m p.1 p.2
  | _, _, .nil, p, h => by cases h
  | _, _, .cons h hs, p, hp => by
    rcases List.mem_cons.mp hp with e | hp
    · rw [e]; exact h
    · exact hs.zipRefs p hp
theorem RVs.ofZip {K : PySem.W.Frag} {m : List Addr} {H : Hp} : ∀ {L : List (AV × V)}, (∀ p ∈ L, RV K H m p.1 p.2) → RVs K H m (L.map (·.1)) (L.map (·.2))
  | [], _ => .nil
  | p :: r, h => .cons (h p (by simp)) (RVs.ofZip fun q hq => h q (List.mem_cons_of_mem _ hq))
/-- the ints of a tuple that stands -/
def intsV : List V → List Int
  | .int i :: r => i :: intsV r | _ => []
theorem intsV_map : ∀ ns : List Int, intsV (ns.map V.int) = ns
  | [] => rfl
  | n :: r => by show n :: intsV (r.map V.int) = _; rw [intsV_map r]
def kOf (H : Hp) : V → List Int
  | .ref t => (match H t with | some (.tup vs) => intsV vs | _ => []) | _ => []
theorem kOf_of {K : PySem.W.Frag} {m : List Addr} {H : Hp} {x : AV} {y : V} {ns : List Int} (r : RV K H m x y) (h : tupK x = some ns) : ns ≠ [] ∧ kOf H y = ns ∧ ∃ t, y = .ref t ∧ H t = some (.tup (ns.map V.int)) := by
  cases r with
  | @tup xs a ys ht hs =>
    cases xs with
    | nil => cases h
    | cons z zs =>
      have h : intsOf (z :: zs) = some ns := h
      have e := hs.ofInts h
      subst e
      refine ⟨fun q => ?_, ?_, a, rfl, ht⟩
      · subst q
        have := hs.length
        simp at this
      · show (match H a with | some (.tup vs) => intsV vs | _ => []) = ns
        rw [ht]; exact intsV_map ns
  | _ => cases h
theorem cb_sorted : CallR X (.builtin "sorted") (rCallA X.K (aBif .sortd)) := by
  rintro pins s σ H xs us Q I r ⟨m, A, axs, R, rs, fin⟩
  cases rs with
  | nil => exact False.elim fin
  | cons h1 hs =>
    cases hs with
    | cons _ _ => exact False.elim fin
    | nil =>
      simp only [aBif] at fin
      split at fin
      · rename_i ys e
        split at fin
        · rename_i ha
          obtain ⟨a, zs, rfl, hq, rr⟩ := R.lst h1 e
          have hk : ∀ p ∈ ys.zip zs, ∃ ns, tupK p.1 = some ns ∧ ns ≠ [] ∧ kOf H p.2 = ns ∧ ∃ t, p.2 = .ref t ∧ H t = some (.tup (ns.map V.int)) := fun p hp => by
            have hm : p.1 ∈ ys := (List.of_mem_zip hp).1
            obtain ⟨ns, hn⟩ := Option.isSome_iff_exists.mp (List.all_eq_true.mp ha p.1 hm)
            exact ⟨ns, hn, kOf_of (rr.zipRefs p hp) hn⟩
          have hl := rr.length
          have m1 : (ys.zip zs).map (·.1) = ys := List.map_fst_zip (by omega)
          have m2 : (ys.zip zs).map (·.2) = zs := List.map_snd_zip (by omega)
          refine cr_sortedTI pins s σ H _ us Q I r ⟨a, zs, kOf H, rfl, hq, fun x hx => ?_, fun ys' p h1 h2 np => ?_⟩
          · rw [← m2] at hx
            obtain ⟨p, hp, rfl⟩ := List.mem_map.mp hx
            obtain ⟨ns, _, g2, g3, t, g4, g5⟩ := hk p hp
            rw [g3]
            exact ⟨g2, t, g4, g5⟩
          · have O := swo_lexI (kOf H)
            obtain ⟨s1, s2⟩ := isort_ok O zs
            have eq : ys' = isort (fun x y => HT.lexLt (kOf H x) (kOf H y)) zs := SrtO.stb_uniq O h1 s1 (h2.trans ⟨s2.perm.symm, fun x => (s2.cls x).symm⟩)
            have i1 : (isort (fun p q : AV × V => ltK p.1 q.1) (ys.zip zs)).map (·.1) = isort ltK ys := by
              rw [isort_map (lt' := ltK) (fun p : AV × V => p.1) _ fun _ _ _ _ => rfl, m1]
            have i2 : (isort (fun p q : AV × V => ltK p.1 q.1) (ys.zip zs)).map (·.2) = isort (fun x y => HT.lexLt (kOf H x) (kOf H y)) zs := by
              rw [isort_map (lt' := fun x y => HT.lexLt (kOf H x) (kOf H y)) (fun p : AV × V => p.2) _ fun p hp q hq => ?_, m2]
              obtain ⟨ns, f1, _, f3, _⟩ := hk p hp
              obtain ⟨ms, g1, _, g3, _⟩ := hk q hq
              show HT.lexLt ((tupK p.1).getD []) ((tupK q.1).getD []) = HT.lexLt (kOf H p.2) (kOf H q.2)
              rw [f1, g1, f3, g3]; rfl
            have Op : SrtO.Swo (fun p q : AV × V => ltK p.1 q.1) := swo_lexI fun p : AV × V => (tupK p.1).getD []
            have rv : RVs X.K H m (isort ltK ys) ys' := by
              rw [eq, ← i1, ← i2]
              exact RVs.ofZip fun p hp => rr.zipRefs p ((isort_ok Op (ys.zip zs)).2.perm.mem_iff.mp hp)
            exact fin.lstNew R rv np
        · exact False.elim fin
      · exact False.elim fin

/-! ### functions of a new list -/
theorem lf_tup : CallR X (.type "tuple") (rCallF X.K (aLF .tup)) := by
  rintro pins s σ H xs us Q I r ⟨m, A, axs, ys, D, rfl, hD, R, rs, fin⟩
  exact call_tuple_of pins s σ H _ us Q I r ⟨D, ys, rfl, .inl ⟨hD, fun l nl => fin.tupNew R rs nl⟩⟩
theorem lf_tups : CallR X (.type "tuple") (rCallF X.K (aLF .tups)) := by
  rintro pins s σ H xs us Q I r ⟨m, A, axs, ys, D, rfl, hD, R, rs, fin⟩
  rcases mkT_new R fin rs with q | q
  · exact call_tuple_frz pins s σ H _ us Q I r ⟨D, ys, rfl, hD, q⟩
  · exact call_tuple_of pins s σ H _ us Q I r ⟨D, ys, rfl, .inl ⟨hD, q⟩⟩
theorem lf_len : CallR X (.builtin "len") (rCallF X.K (aLF .len)) := by
  rintro pins s σ H xs us Q I r ⟨m, A, axs, ys, D, rfl, hD, R, rs, fin⟩
  have fin : Fin X.K m H (.ok (.int axs.length) A) Q := fin
  rw [rs.length] at fin
  exact call_len_seq pins s σ H _ us Q I r ⟨D, ys, rfl, .inl hD, fin.here R (.int _)⟩
theorem lf_sum (hc : X.calm = true) : CallR X (.builtin "sum") (rCallF X.K (aLF .sum)) := by
  rintro pins s σ H xs us Q I r ⟨m, A, axs, ys, D, rfl, hD, R, rs, fin⟩
  simp only [aLF] at fin
  split at fin
  · rename_i ns e
    have e2 := rs.ofInts e
    subst e2
    exact cr_sum hc pins s σ H _ us Q I r ⟨D, ns, rfl, hD, fin.here R (.int _)⟩
  · exact False.elim fin
theorem lf_all (hc : X.calm = true) : CallR X (.builtin "all") (rCallF X.K (aLF .all)) := by
  rintro pins s σ H xs us Q I r ⟨m, A, axs, ys, D, rfl, hD, R, rs, fin⟩
  simp only [aLF] at fin
  split at fin
  · rename_i ns e
    have e2 := rs.ofBools e
    subst e2
    exact cr_all hc pins s σ H _ us Q I r ⟨D, ns, rfl, hD, fin.here R (.bl _)⟩
  · exact False.elim fin
theorem lf_any (hc : X.calm = true) : CallR X (.builtin "any") (rCallF X.K (aLF .any)) := by
  rintro pins s σ H xs us Q I r ⟨m, A, axs, ys, D, rfl, hD, R, rs, fin⟩
  simp only [aLF] at fin
  split at fin
  · rename_i ns e
    have e2 := rs.ofBools e
    subst e2
    exact cr_any hc pins s σ H _ us Q I r ⟨D, ns, rfl, hD, fin.here R (.bl _)⟩
  · exact False.elim fin
theorem fold_max (ns : List Int) : ∀ n m : Int, m ∈ n :: ns → (∀ y ∈ n :: ns, y ≤ m) → ns.foldl (fun a b => if b > a then b else a) n = m := by
  induction ns with
  | nil => intro n m h _; simp at h; exact h.symm
  | cons k r ih =>
    intro n m h hm
    rw [List.foldl_cons]
    have h1 : n ≤ m := hm n (by simp)
    have h2 : k ≤ m := hm k (by simp)
    by_cases hk : k > n
    · rw [if_pos hk]
      refine ih k m ?_ fun y hy => hm y (List.mem_cons_of_mem _ hy)
      rcases List.mem_cons.mp h with e | h
      · omega
      · exact h
    · rw [if_neg hk]
      refine ih n m ?_ fun y hy => hm y ?_
      · rcases List.mem_cons.mp h with e | h
        · simp [e]
        · rcases List.mem_cons.mp h with e | h
          · have : n = m := by omega
            simp [this]
          · exact List.mem_cons_of_mem _ h
      · rcases List.mem_cons.mp hy with e | h
        · simp [e]
        · exact List.mem_cons_of_mem _ (List.mem_cons_of_mem _ h)
theorem fold_min (ns : List Int) : ∀ n m : Int, m ∈ n :: ns → (∀ y ∈ n :: ns, m ≤ y) → ns.foldl (fun a b => if b < a then b else a) n = m := by
  induction ns with
  | nil => intro n m h _; simp at h; exact h.symm
  | cons k r ih =>
    intro n m h hm
    rw [List.foldl_cons]
    have h1 : m ≤ n := hm n (by simp)
    have h2 : m ≤ k := hm k (by simp)
    by_cases hk : k < n
    · rw [if_pos hk]
      refine ih k m ?_ fun y hy => hm y (List.mem_cons_of_mem _ hy)
      rcases List.mem_cons.mp h with e | h
      · omega
      · exact h
    · rw [if_neg hk]
      refine ih n m ?_ fun y hy => hm y ?_
      · rcases List.mem_cons.mp h with e | h
        · simp [e]
        · rcases List.mem_cons.mp h with e | h
          · have : n = m := by omega
            simp [this]
          · exact List.mem_cons_of_mem _ h
      · rcases List.mem_cons.mp hy with e | h
        · simp [e]
        · exact List.mem_cons_of_mem _ (List.mem_cons_of_mem _ h)
theorem lf_max (hc : X.calm = true) : CallR X (.builtin "max") (rCallF X.K (aLF .max)) := by
  rintro pins s σ H xs us Q I r ⟨m, A, axs, ys, D, rfl, hD, R, rs, fin⟩
  simp only [aLF] at fin
  split at fin
  · rename_i n ns e
    have e2 := rs.ofInts e
    subst e2
    refine cr_max hc pins s σ H _ us Q I r ⟨D, n :: ns, rfl, hD, by simp, fun k h1 h2 => ?_⟩
    rw [fold_max ns n k h1 h2] at fin
    exact fin.here R (.int _)
  · exact False.elim fin
theorem lf_min (hc : X.calm = true) : CallR X (.builtin "min") (rCallF X.K (aLF .min)) := by
  rintro pins s σ H xs us Q I r ⟨m, A, axs, ys, D, rfl, hD, R, rs, fin⟩
  simp only [aLF] at fin
  split at fin
  · rename_i n ns e
    have e2 := rs.ofInts e
    subst e2
    refine cr_min hc pins s σ H _ us Q I r ⟨D, n :: ns, rfl, hD, by simp, fun k h1 h2 => ?_⟩
    rw [fold_min ns n k h1 h2] at fin
    exact fin.here R (.int _)
  · exact False.elim fin

theorem cb_tupofs : CallR X (.type "tuple") (rCallA X.K (aBif .tupofs)) := by
  rintro pins s σ H xs us Q I r ⟨m, A, axs, R, rs, fin⟩
  cases rs with
  | nil => exact False.elim fin
  | @cons ax x _ _ h1 hs =>
    cases hs with
    | cons _ _ => exact False.elim fin
    | nil =>
      have lst : ∀ {ys}, lstOf A ax = some ys → Fin X.K m H (.ok (mkT ys) A) Q → wpAny (model X.prog X.w) X.A (call (.type "tuple") us) (EP X pins σ Q) X.xe s := fun {ys} e f => by
        obtain ⟨a, zs, rfl, hq, rr⟩ := R.lst h1 e
        rcases mkT_new R f rr with q | q
        · exact call_tuple_frz pins s σ H _ us Q I r ⟨a, zs, rfl, hq, q⟩
        · exact call_tuple_of pins s σ H _ us Q I r ⟨a, zs, rfl, .inl ⟨hq, q⟩⟩
      cases h1 with
      | pt he hd => exact call_tuple_of pins s σ H _ us Q I r ⟨_, _, rfl, .inr ⟨.inl (.inr ⟨_, he⟩), fin.here R (.pt he hd)⟩⟩
      | tup ht hh => exact call_tuple_of pins s σ H _ us Q I r ⟨_, _, rfl, .inr ⟨.of ht, fin.here R (.tup ht hh)⟩⟩
      | fl ht hh => exact lst rfl fin
      | ref hm =>
        simp only [aBif] at fin
        split at fin
        · rename_i e; exact lst e fin
        · exact False.elim fin
      | _ => exact False.elim fin

theorem cb_lfof {f : LF} {v : Value} (h : CallR X v (rCallF X.K (aLF f))) : CallR X v (rCallA X.K (aBif (.lfof f))) := by
  rintro pins s σ H xs us Q I r ⟨m, A, axs, R, rs, fin⟩
  cases rs with
  | nil => exact False.elim fin
  | cons h1 hs =>
    cases hs with
    | cons _ _ => exact False.elim fin
    | nil =>
      simp only [aBif] at fin
      split at fin
      · rename_i e
        obtain ⟨a, zs, rfl, hq, rr⟩ := R.lst h1 e
        exact h pins s σ H _ us Q I r ⟨m, A, _, zs, a, rfl, hq, R, rr, fin⟩
      · exact False.elim fin

/-! ### methods -/
def rMth (K : PySem.W.Frag) (k : Mth) : V → List V → Hp → VK → Prop := fun x vs H Q => ∃ m A ax axs, RelH K m A H ∧ RV K H m ax x ∧ RVs K H m axs vs ∧ Fin K m H (aMth k ax axs A) Q
theorem mth_lst {K : PySem.W.Frag} (R : RelH K m A H) {k : Mth} (hk : k.dict = false) (ht : k.txt = false) {ax : AV} {axs : List AV} {x : V} {Q : VK} (hx : RV K H m ax x) (fin : Fin K m H (aMth k ax axs A) Q) :
    ∃ n a ys zs, ax = .ref n ∧ x = .ref a ∧ m[n]? = some a ∧ A[n]? = some (.lst ys) ∧ H a = some (.lst zs) ∧ RVs K H m ys zs := by
  cases hx with
  | @ref n a hm =>
    simp only [aMth] at fin
    cases q : A[n]? with
    | none => simp only [q] at fin; exact False.elim fin
    | some o =>
      cases o with
      | lst ys => obtain ⟨zs, e, r⟩ := R.of hm q; exact ⟨n, a, ys, zs, rfl, rfl, hm, q, e, r⟩
      | dT fz kvs => simp only [q] at fin; cases k <;> first | (cases hk; done) | exact False.elim fin
      | _ => simp only [q] at fin; exact False.elim fin
  | pt _ _ => cases k <;> first | (cases ht; done) | exact False.elim fin
  | str _ => cases k <;> first | (cases ht; done) | exact False.elim fin
  | _ => exact False.elim fin
theorem mr_append : MtR X "list.append" (rMth X.K .append) := by
  rintro pins s σ H x xs v us Q I rx rxs ⟨m, A, ax, axs, R, hx, hxs, fin⟩
  obtain ⟨n, a, ys, zs, rfl, rfl, hm, hA, hH, r⟩ := mth_lst R rfl rfl hx fin
  simp only [aMth, hA] at fin
  cases hxs with
  | nil => exact False.elim fin
  | cons h1 hs =>
    cases hs with
    | cons _ _ => exact False.elim fin
    | nil =>
      simp only at fin
      split at fin
      · rename_i hz
        obtain ⟨t, R'⟩ := R.putL hm hH (r.append (.one h1))
        rw [r.length] at hz
        exact mt_append pins s σ H _ _ v us Q I rx rxs ⟨a, zs, _, rfl, rfl, hH, hz, fin m _ t R' _ .non⟩
      · exact False.elim fin
theorem mr_pop0 : MtR X "list.pop" (rMth X.K .pop0) := by
  rintro pins s σ H x xs v us Q I rx rxs ⟨m, A, ax, axs, R, hx, hxs, fin⟩
  obtain ⟨n, a, ys, zs, rfl, rfl, hm, hA, hH, r⟩ := mth_lst R rfl rfl hx fin
  simp only [aMth, hA] at fin
  cases hxs with
  | cons _ _ => exact False.elim fin
  | nil =>
    simp only at fin
    split at fin
    · rename_i y e
      obtain ⟨w, e2, rw'⟩ := r.get e
      rw [r.length] at e2
      obtain ⟨t, R'⟩ := R.putL hm hH r.dropLast
      exact mt_pop pins s σ H _ _ v us Q I rx rxs ⟨a, zs, w, rfl, rfl, hH, e2, fin m _ t R' _ (rw'.mono t)⟩
    · exact False.elim fin
theorem mr_pop1 : MtR X "list.pop" (rMth X.K .pop1) := by
  rintro pins s σ H x xs v us Q I rx rxs ⟨m, A, ax, axs, R, hx, hxs, fin⟩
  obtain ⟨n, a, ys, zs, rfl, rfl, hm, hA, hH, r⟩ := mth_lst R rfl rfl hx fin
  simp only [aMth, hA] at fin
  cases hxs with
  | nil => exact False.elim fin
  | cons h1 hs =>
    cases hs with
    | cons _ _ => cases h1 <;> exact False.elim fin
    | nil =>
      cases h1 with
      | int i =>
        simp only at fin
        split at fin
        · rename_i hz
          split at fin
          · rename_i k e1
            split at fin
            · rename_i y e
              obtain ⟨w, e2, rw'⟩ := r.get e
              rw [r.length] at e1
              obtain ⟨t, R'⟩ := R.putL hm hH (r.eraseIdx k)
              exact mt_popAt pins s σ H _ _ v us Q I rx rxs ⟨a, zs, i, k, w, rfl, rfl, hH, hz.1, hz.2, e1, e2, fin m _ t R' _ (rw'.mono t)⟩
            · exact False.elim fin
          · exact False.elim fin
        · exact False.elim fin
      | _ => exact False.elim fin
theorem mr_reverse : MtR X "list.reverse" (rMth X.K .reverse) := by
  rintro pins s σ H x xs v us Q I rx rxs ⟨m, A, ax, axs, R, hx, hxs, fin⟩
  obtain ⟨n, a, ys, zs, rfl, rfl, hm, hA, hH, r⟩ := mth_lst R rfl rfl hx fin
  simp only [aMth, hA] at fin
  cases hxs with
  | cons _ _ => exact False.elim fin
  | nil =>
    obtain ⟨t, R'⟩ := R.putL hm hH r.reverse
    exact mt_reverse pins s σ H _ _ v us Q I rx rxs ⟨a, zs, rfl, rfl, hH, fin m _ t R' _ .non⟩
theorem mr_extend : MtR X "list.extend" (rMth X.K .extend) := by
  rintro pins s σ H x xs v us Q I rx rxs ⟨m, A, ax, axs, R, hx, hxs, fin⟩
  obtain ⟨n, a, ys, zs, rfl, rfl, hm, hA, hH, r⟩ := mth_lst R rfl rfl hx fin
  simp only [aMth, hA] at fin
  cases hxs with
  | nil => exact False.elim fin
  | cons h1 hs =>
    cases hs with
    | cons _ _ => cases h1 <;> exact False.elim fin
    | nil =>
      cases h1 with
      | @ref k b hk =>
        simp only at fin
        split at fin
        · rename_i zs' e
          split at fin
          · rename_i hz
            obtain ⟨ws, e2, r2⟩ := R.of hk e
            obtain ⟨t, R'⟩ := R.putL hm hH (r.append r2)
            rw [r.length, r2.length] at hz
            exact mt_extend pins s σ H _ _ v us Q I rx rxs ⟨a, b, zs, ws, rfl, rfl, hH, e2, hz, fin m _ t R' _ .non⟩
          · exact False.elim fin
        · exact False.elim fin
      | _ => exact False.elim fin
/-! ### x.index(v), x.split(y) -/
theorem vals_strs : ∀ {ns : List Str} {us : List Value}, Vals (ns.map V.str) us → StrsAre us ns
  | [], us, r => by
    rw [List.map_nil] at r
    cases r
    exact StrsAre.nil
  | n :: ns, us, r => by
    rw [List.map_cons] at r
    cases r with
    | cons r1 r2 =>
      obtain ⟨t, rfl⟩ := r1
      exact StrsAre.cons n t (vals_strs r2)
theorem vals_ints : ∀ {ns : List Int} {us : List Value}, Vals (ns.map V.int) us → IntsAre us ns
  | [], us, r => by
    rw [List.map_nil] at r
    cases r
    exact IntsAre.nil
  | n :: ns, us, r => by
    rw [List.map_cons] at r
    cases r with
    | cons r1 r2 =>
      obtain ⟨t, rfl⟩ := r1
      exact IntsAre.cons n t (vals_ints r2)
theorem mr_idxT : MtR X "tuple.index" (fun x xs H Q => ∃ (p : Addr) (ys : List Str) (z : Str), x = V.ref p ∧ xs = [V.str z] ∧ SqT X.K H p (ys.map V.str) ∧ z ∈ ys ∧ Q (.int (ys.idxOf z : Nat)) H) := by
  rintro pins s σ H x xs v us Q I rx rxs ⟨p, ys, z, rfl, rfl, hp, hz, q⟩
  obtain ⟨its, rv, pl, _⟩ := I.tuple hp
  obtain rfl : v = Value.ref p := rx
  obtain ⟨u, rfl, t, rfl⟩ := vals1 rxs
  exact SeqAt.tuple_index_strs pl (vals_strs rv) hz ⟨.int (ys.idxOf z : Nat), H, I.tok _, ⟨_, rfl⟩, q⟩
theorem mr_idxL : MtR X "list.index" (fun x xs H Q => ∃ (p : Addr) (n : Nat), x = V.ref p ∧ ((∃ (ys : List Str) (z : Str), xs = [V.str z] ∧ SqL X.K H p (ys.map V.str) ∧ ys.length ≤ sizeLine ∧ z ∈ ys ∧ n = ys.idxOf z) ∨ ∃ (ys : List Int) (z : Int), xs = [V.int z] ∧ SqL X.K H p (ys.map V.int) ∧ ys.length ≤ sizeLine ∧ z ∈ ys ∧ n = ys.idxOf z) ∧ Q (.int (n : Nat)) H) := by
  rintro pins s σ H x xs v us Q I rx rxs ⟨p, n, rfl, h, q⟩
  obtain rfl : v = Value.ref p := rx
  rcases h with ⟨ys, z, rfl, hp, hl, hz, rfl⟩ | ⟨ys, z, rfl, hp, hl, hz, rfl⟩
  · obtain ⟨its, rv, pl, _⟩ := I.list hp
    obtain ⟨u, rfl, t, rfl⟩ := vals1 rxs
    exact SeqAt.list_index_strs pl.isList (vals_strs rv) hl hz ⟨.int (ys.idxOf z : Nat), H, I.tok _, ⟨_, rfl⟩, q⟩
  · obtain ⟨its, rv, pl, _⟩ := I.list hp
    obtain ⟨u, rfl, t, rfl⟩ := vals1 rxs
    exact SeqAt.list_index_ints pl.isList (vals_ints rv) hl hz ⟨.int (ys.idxOf z : Nat), H, I.tok _, ⟨_, rfl⟩, q⟩
theorem mr_get1 (hu : X.A.units + 65 < cLine) : MtR X "dict.get" (rMth X.K .get1) := by
  rintro pins s σ H x xs v us Q I rx rxs ⟨m, A, ax, axs, R, hx, hxs, fin⟩
  cases hx with
  | @ref n a hm =>
    simp only [aMth] at fin
    split at fin
    · rename_i ys hA
      cases hxs with
      | nil => exact False.elim fin
      | cons _ hs => cases hs <;> exact False.elim fin
    · rename_i fz kvs hA
      cases hxs with
      | nil => exact False.elim fin
      | cons h1 hs =>
        cases hs with
        | cons _ _ => exact False.elim fin
        | nil =>
          simp only at fin
          split at fin
          · rename_i k hk
            obtain rfl : v = Value.ref a := rx
            cases rxs with
            | cons r1 rr =>
              cases rr
              rcases R.dget hm hA h1 hk with ⟨e, g⟩ | ⟨w, z, e, g, hw⟩
              · rw [e] at fin
                exact d_get1 (by omega) I g r1 fun w' s' I' rw' => ⟨_, H, I', rw', fin.here R .non⟩
              · rw [e] at fin
                exact d_get1 (by omega) I g r1 fun w' s' I' rw' => ⟨_, H, I', rw', fin.here R hw⟩
          · exact False.elim fin
    · exact False.elim fin
  | _ => exact False.elim fin
theorem mr_get2 (hu : X.A.units + 65 < cLine) : MtR X "dict.get" (rMth X.K .get2) := by
  rintro pins s σ H x xs v us Q I rx rxs ⟨m, A, ax, axs, R, hx, hxs, fin⟩
  cases hx with
  | @ref n a hm =>
    simp only [aMth] at fin
    split at fin
    · rename_i ys hA
      cases hxs with
      | nil => exact False.elim fin
      | cons _ hs => cases hs <;> exact False.elim fin
    · rename_i fz kvs hA
      cases hxs with
      | nil => exact False.elim fin
      | cons h1 hs =>
        cases hs with
        | nil => exact False.elim fin
        | cons h2 hs =>
          cases hs with
          | cons _ _ => exact False.elim fin
          | nil =>
            simp only at fin
            split at fin
            · rename_i k hk
              obtain rfl : v = Value.ref a := rx
              cases rxs with
              | cons r1 rr =>
                cases rr with
                | cons r2 rr =>
                  cases rr
                  rcases R.dget hm hA h1 hk with ⟨e, g⟩ | ⟨w, z, e, g, hw⟩
                  · rw [e] at fin
                    exact d_get2 (by omega) I g r1 r2 fun w' s' I' rw' => ⟨_, H, I', rw', fin.here R h2⟩
                  · rw [e] at fin
                    exact d_get2 (by omega) I g r1 r2 fun w' s' I' rw' => ⟨_, H, I', rw', fin.here R hw⟩
            · exact False.elim fin
    · exact False.elim fin
  | _ => exact False.elim fin
end
end Ev


set_option linter.all false
set_option maxRecDepth 100000
namespace Ev
open PySem PySem.Spec PyProof.Rows L2

/-! ### from the text to the evaluator's trees -/
structure FI where
  arity : Nat
  dfs : List (List AV)
structure GI where
  fn : Str → Option FI
  con : Str → Option AV
  gcd : Bool
  pts : Bool := false
def isBlt (x : Str) : Bool := [("isinstance" : Str), "len", "abs", "int", "bool", "str", "tuple", "list", "dict", "sum", "all", "any", "max", "min", "range", "zip", "sorted", "reversed", "enumerate"].contains x
def tyOf (x : Str) : Option String :=
  if x = "int" then some "int" else if x = "bool" then some "bool" else if x = "str" then some "str" else if x = "tuple" then some "tuple" else if x = "list" then some "list" else if x = "dict" then some "dict" else none
def visB (sc : Scope) (x : Str) : Bool := match sc.names.lookup x with | some .local => true | some .cell => true | some .free => true | _ => false
def locB (sc : Scope) (x : Str) : Bool := match sc.names.lookup x with | some .local => true | some .cell => true | _ => false
def glB (sc : Scope) (x : Str) : Bool := match sc.names.lookup x with | some .globalImplicit => true | _ => false
def okName (x : Str) : Bool := x != ("__debug__" : Str) && x != ("__classdict__" : Str) && x != ("__name__" : Str)
def slotOf (N : List Str) (x : Str) : Option Nat := match N.idxOf? x with | some i => if N[i]? = some x then some i else none | none => none
def bopOf : Operator → Option BOp
  | .Add => some .add | .Sub => some .sub | .Mult => some .mul | .FloorDiv => some .fdiv | .Mod => some .mod | .Pow => some .pow | .LShift => some .shl | .RShift => some .shr | .BitAnd => some .band | .BitOr => some .bor | _ => none
def copOf : CmpOp → COp
  | .Eq => .eq | .NotEq => .ne | .Lt => .lt | .LtE => .le | .Gt => .gt | .GtE => .ge | .Is => .is_ | .IsNot => .isnot | .In => .in_ | .NotIn => .notin
theorem opOf_bop {o : Operator} {b : BOp} (h : bopOf o = some b) : opOf b = o := by cases o <;> simp [bopOf] at h <;> subst h <;> rfl
theorem cmOf_cop (o : CmpOp) : cmOf (copOf o) = o := by cases o <;> rfl
def bifA (p : Bool) (x : Str) (n : Nat) : Option Bif :=
  if x = "isinstance" ∧ n = 2 then some .isinst else if x = "len" ∧ n = 1 then some .len else if x = "abs" ∧ n = 1 then some .abs else if x = "int" ∧ n = 1 then some .int_
  else if x = "min" ∧ n = 2 then some .min2 else if x = "max" ∧ n = 2 then some .max2 else if x = "list" ∧ n = 1 then some .listof else if x = "tuple" ∧ n = 1 then some (if p then .tupofs else .tupof) else none
def bifB (x : Str) (n : Nat) : Option Bif :=
  if x = "sum" ∧ n = 1 then some (.lfof .sum) else if x = "all" ∧ n = 1 then some (.lfof .all) else if x = "any" ∧ n = 1 then some (.lfof .any) else if x = "max" ∧ n = 1 then some (.lfof .max) else if x = "min" ∧ n = 1 then some (.lfof .min) else if x = "sorted" ∧ n = 1 then some .sortd else none
def bifOf (p : Bool) (x : Str) (n : Nat) : Option Bif := match bifA p x n with | some k => some k | none => bifB x n
def lfOf (p : Bool) (x : Str) : Option LF :=
  if x = "tuple" then some (if p then .tups else .tup) else if x = "sum" then some .sum else if x = "all" then some .all else if x = "any" then some .any else if x = "len" then some .len else if x = "max" then some .max else if x = "min" then some .min else none
def mthOf (x : Str) (n : Nat) : Option Mth :=
  if x = "append" ∧ n = 1 then some .append else if x = "pop" ∧ n = 0 then some .pop0 else if x = "pop" ∧ n = 1 then some .pop1 else if x = "reverse" ∧ n = 0 then some .reverse else if x = "extend" ∧ n = 1 then some .extend else if x = "get" ∧ n = 1 then some .get1 else if x = "get" ∧ n = 2 then some .get2 else if x = "index" ∧ n = 1 then some .index1 else if x = "split" ∧ n = 1 then some .split1 else none
mutual
/-- the slots that a target stores -/
def tslots : T → List Nat
  | .name i => [i]
  | .tup ts => tslotss ts
  | .sub _ _ => []
def tslotss : List T → List Nat
  | [] => []
  | t :: ts => tslots t ++ tslotss ts
end
def ownOf (N : List Str) (sc : Scope) : Scope → Option (List (Str × Nat)) := fun scope =>
  let own := (scope.names.filter fun y => y.2 == .local || y.2 == .cell).filterMap fun y => (slotOf N y.1).map fun i => (y.1, i)
  if blkC N sc scope own then some own else none
/-- a list that is written or comprehended -/
def isL : Expr → Bool | .List .. => true | .ListComp .. => true | _ => false
def isTupE : Expr → Bool | .Tuple .. => true | _ => false
def noCall0 : Expr → Bool | .Call (.Name _ _) [] [] _ => false | _ => true
def mapO {α β : Type} (f : α → Option β) : List α → Option (List β)
  | [] => some [] | x :: xs => match f x, mapO f xs with | some y, some ys => some (y :: ys) | _, _ => none

def mkComp (own : List Nat) (it : I) (t : T) (a : E) : List E → Option L
  | [] => some (.comp own it t (.lit (.bl true)) a)
  | [q] => some (.comp own it t q a)
  | _ => none
/-- list(range(a)) -/
def rngArg (sc : Scope) (f : Str) : Expr → Option Expr
  | .Call (.Name g _) [b] [] _ => if f = "list" ∧ g = "range" ∧ glB sc "range" = true then some b else none
  | _ => none
section
variable (G : GI) (N : List Str)
mutual
def trE : Nat → Scope → Expr → Option E
  | 0, _, _ => none
  | n + 1, sc, e => match e with
    | .Constant q _ _ => match q with
      | .none => some (.lit .non) | .bool b => some (.lit (.bl b)) | .int i => some (.lit (.int i)) | .str s => some (.lit (.str s)) | _ => none
    | .Name x _ => if okName x then (if visB sc x then (slotOf N x).map .var else if glB sc x then
        (if isBlt x then (tyOf x).map fun T => .lit (.ty T) else if (G.con x).isSome then some (.glob x) else none) else none) else none
    | .BinOp a o b _ => match bopOf o, trE n sc a, trE n sc b with | some o, some a, some b => some (.bin o a b) | _, _, _ => none
    | .UnaryOp .USub a _ => (trE n sc a).map .neg
    | .UnaryOp .Not a _ => (trE n sc a).map .not
    | .BoolOp .And es _ => trAnd n sc es
    | .BoolOp .Or es _ => trOr n sc es
    | .Compare a [o] [b] _ => match trE n sc a, trE n sc b with | some a, some b => some (.cmp (copOf o) a b) | _, _ => none
    | .Compare a [o, p] [b, d] _ => match trE n sc a, trE n sc b, trE n sc d with | some a, some b, some d => some (.chain (copOf o) (copOf p) a b d) | _, _, _ => none
    | .IfExp q a b _ => match trE n sc q, trE n sc a, trE n sc b with | some q, some a, some b => some (.ite q a b) | _, _, _ => none
    | .Tuple es _ _ => (trEs n sc es).map .tup
    | .List _ _ => (trL n sc e).map .new
    | .ListComp _ _ _ _ => (trL n sc e).map .new
    | .Dict [] [] _ => some .dnew
    | .Dict (k :: ks) vs _ => if decide (ks.length < 15) then (trD n sc (k :: ks) vs).map .dct else none
    | .Subscript a (.Slice lo hi none _) _ => match trE n sc a, trO n sc lo, trO n sc hi with | some a, some lo, some hi => some (.sl a lo hi) | _, _, _ => none
    | .Subscript a b _ => match trE n sc a, trE n sc b with | some a, some b => some (.ix a b) | _, _ => none
    | .Call (.Name f _) es [] _ => if okName f && glB sc f then
        (match G.fn f with
        | some fi => if isBlt f then none else (match fi.dfs.find? (fun d => es.length + d.length == fi.arity) with
          | some d => (trEs n sc es).map fun es => .call f es d
          | none => none)
        | none => if isBlt f then
            (match es with
            | [a] => if isL a then (match lfOf G.pts f, trL n sc a with | some k, some l => some (.lf k l) | _, _ => none)
              else (match rngArg sc f a with | some b => (trE n sc b).map .lrange | none => (match bifOf G.pts f 1, trE n sc a with | some k, some a => some (.bif k [a]) | _, _ => none))
            | _ => match bifOf G.pts f es.length, trEs n sc es with | some k, some es => some (.bif k es) | _, _ => none)
          else if G.gcd && f == ("gcd" : Str) && es.length == 2 then (trEs n sc es).map (.bif .gcd) else none) else none
    | .Call (.Attribute o m apos) es [] cpos => if apos.endLine == cpos.line && decide (es.length < 29) && noCall0 o then
        (match mthOf m es.length, trE n sc o, trEs n sc es with | some k, some o, some es => some (.mth k o es) | _, _, _ => none) else none
    | _ => none
def trAnd : Nat → Scope → List Expr → Option E
  | 0, _, _ => none
  | _ + 1, _, [] => none
  | n + 1, sc, [e] => trE n sc e
  | n + 1, sc, e :: e' :: es => match trE n sc e, trAnd n sc (e' :: es) with | some a, some b => some (.and a b) | _, _ => none
def trOr : Nat → Scope → List Expr → Option E
  | 0, _, _ => none
  | _ + 1, _, [] => none
  | n + 1, sc, [e] => trE n sc e
  | n + 1, sc, e :: e' :: es => match trE n sc e, trOr n sc (e' :: es) with | some a, some b => some (.or a b) | _, _ => none
def trEs : Nat → Scope → List Expr → Option (List E)
  | 0, _, _ => none
  | _ + 1, _, [] => some []
  | n + 1, sc, e :: es => match trE n sc e, trEs n sc es with | some a, some b => some (a :: b) | _, _ => none
def trD : Nat → Scope → List (Option Expr) → List Expr → Option (List E)
  | 0, _, _, _ => none
  | _ + 1, _, [], [] => some []
  | n + 1, sc, some k :: ks, v :: vs => (match trE n sc k, trE n sc v, trD n sc ks vs with | some k, some v, some r => some (k :: v :: r) | _, _, _ => none)
  | _ + 1, _, _, _ => none
def trO : Nat → Scope → Option Expr → Option (Option E)
  | 0, _, _ => none
  | _ + 1, _, none => some none
  | n + 1, sc, some e => (trE n sc e).map some
def trL : Nat → Scope → Expr → Option L
  | 0, _, _ => none
  | n + 1, sc, e => match e with
    | .List es _ => (trEs n sc es).map .disp
    | .ListComp elt [⟨tg, iter, ifs, asy⟩] scope _ => if asy = 0 then (match ownOf N sc scope, trI n sc iter tg, trT n (fun x => scope.names.lookup x == some .cell) (relS scope sc) tg, trE n (relS scope sc) elt, trEs n (relS scope sc) ifs with
      | some own, some it, some t, some a, some qs => if (tslots t).all (fun i => (own.map (·.2)).contains i) then mkComp (own.map (·.2)) it t a qs else none
      | _, _, _, _, _ => none) else none
    | _ => none
def trI : Nat → Scope → Expr → Expr → Option I
  | 0, _, _, _ => none
  | n + 1, sc, e, tg => match e with
    | .Call (.Name f _) es [] _ => if f = "zip" then (if glB sc f && isTupE tg then (match es with
        | [a, b] => (match trE n sc a, trE n sc b with | some a, some b => some (.zip a b) | _, _ => none)
        | _ => none) else none) else if f = "range" then (if glB sc f then (match es with
        | [a] => (trE n sc a).map .range1
        | [a, b] => (match trE n sc a, trE n sc b with | some a, some b => some (.range2 a b) | _, _ => none)
        | _ => none) else none) else (trE n sc e).map .v
    | .Set .. => none
    | _ => if isL e then (trL n sc e).map .l else (trE n sc e).map .v
def trT : Nat → (Str → Bool) → Scope → Expr → Option T
  | 0, _, _, _ => none
  | n + 1, fc, sc, e => match e with
    | .Name x _ => if locB sc x && (sc.names.lookup x == some .local || fc x) then (slotOf N x).map .name else none
    | .Tuple es _ _ => (trTs n fc sc es).map .tup
    | .Subscript o i _ => match i with
      | .Slice .. => none
      | _ => match trE n sc o, trE n sc i with | some o, some i => some (.sub o i) | _, _ => none
    | _ => none
def trTs : Nat → (Str → Bool) → Scope → List Expr → Option (List T)
  | 0, _, _, _ => none
  | _ + 1, _, _, [] => some []
  | n + 1, fc, sc, e :: es => match trT n fc sc e, trTs n fc sc es with | some a, some b => some (a :: b) | _, _ => none
end
end
end Ev


set_option linter.all false
set_option maxRecDepth 100000
set_option maxHeartbeats 1000000
namespace Ev
open PySem PySem.Spec PyProof.Rows L2

/-! ### readings -/
theorem RSl.mono {K : PySem.W.Frag} {m m' : List Addr} {H H' : Hp} {aσ : Sl} {σ : L2.St} (S : RSl K H m aσ σ) (t : Tr m H m' H') : RSl K H' m' aσ σ :=
  ⟨S.1, fun i v e => let ⟨x, h, r⟩ := S.2 i v e; ⟨x, h, r.mono t⟩⟩
theorem RSl.set {K : PySem.W.Frag} {m : List Addr} {H : Hp} {aσ : Sl} {σ : L2.St} (S : RSl K H m aσ σ) {v : AV} {x : V} (i : Nat) (r : RV K H m v x) : RSl K H m (aσ.set i (some v)) (σ.set i (some x)) := by
  refine ⟨by simp [S.1], fun j w e => ?_⟩
  by_cases h : j = i
  · subst h
    by_cases hl : j < aσ.length
    · rw [List.getElem?_set_self hl] at e
      cases e
      exact ⟨x, by rw [List.getElem?_set_self (by rw [← S.1]; exact hl)], r⟩
    · rw [List.getElem?_eq_none (by simp; omega)] at e
      cases e
  · rw [List.getElem?_set_ne (Ne.symm h)] at e
    obtain ⟨y, e2, r2⟩ := S.2 j w e
    exact ⟨y, by rw [List.getElem?_set_ne (Ne.symm h)]; exact e2, r2⟩
theorem RSl.unset {K : PySem.W.Frag} {m : List Addr} {H : Hp} {aσ : Sl} {σ : L2.St} (S : RSl K H m aσ σ) (i : Nat) : RSl K H m (aσ.set i none) (σ.set i none) := by
  refine ⟨by simp [S.1], fun j w e => ?_⟩
  by_cases h : j = i
  · subst h
    by_cases hl : j < aσ.length
    · rw [List.getElem?_set_self hl] at e; cases e
    · rw [List.getElem?_eq_none (by simp; omega)] at e; cases e
  · rw [List.getElem?_set_ne (Ne.symm h)] at e
    obtain ⟨y, e2, r2⟩ := S.2 j w e
    exact ⟨y, by rw [List.getElem?_set_ne (Ne.symm h)]; exact e2, r2⟩
theorem RSl.wipe {K : PySem.W.Frag} {m : List Addr} {H : Hp} : ∀ (l : List Nat) {aσ : Sl} {σ : L2.St}, RSl K H m aσ σ → RSl K H m (wipeS aσ l) (L2.wipe σ l)
  | [], _, _, S => S
  | i :: r, _, _, S => (RSl.wipe r S).unset i
section
variable (K : PySem.W.Frag) (c : Cfg)
def rdE (e : E) : TE := fun σ H Q => ∃ m A aσ, RelH K m A H ∧ RSl K H m aσ σ ∧ Fin K m H (evE c e aσ A) Q
def rdT (e : E) : TT := fun σ H Q => ∃ m A aσ, RelH K m A H ∧ RSl K H m aσ σ ∧ FinT K m H (evT c e aσ A) Q
def rdEs (es : List E) : TA := fun σ H Q => ∃ m A aσ, RelH K m A H ∧ RSl K H m aσ σ ∧ FG K m H (evEs c es aσ A) fun xs _ m' H' => ∀ ys, RVs K H' m' xs ys → Q ys H'
def rdO (e : Option E) : TO := fun σ H Q => ∃ m A aσ, RelH K m A H ∧ RSl K H m aσ σ ∧ FG K m H (evO c e aσ A) fun o _ _ H' => Q o H'
def rdL (l : L) : TE := fun σ H Q => ∃ m A aσ, RelH K m A H ∧ RSl K H m aσ σ ∧ FG K m H (evL c l aσ A) fun xs _ m' H' => ∀ D ys, H' D = some (.lst ys) → D ∉ m' → H D = none → RVs K H' m' xs ys → Q (.ref D) H'
/-- what is walked -/
def JOk (t : Itm) (m0 : List Addr) (H0 : Hp) (J : It) : Prop := ∀ i m A H, Tr m0 H0 m H → RelH K m A H → t.chk A = true →
  (∀ av, t.items[i]? = some av → J.go i H ∧ ∀ x H', J.yld i H x H' → Tr m H m H' ∧ RelH K m A H' ∧ RV K H' m av x) ∧ (t.items.length ≤ i → J.stop i H)
/-- a dict that was frozen for the walk was not frozen at the statement's start -/
def FinOk (t : Itm) (H : Hp) (m' : List Addr) (H' : Hp) : Prop := match t with
  | .keys n true kvs => ∃ a o ws, m'[n]? = some a ∧ (∀ q u, H a ≠ some (.frz q u)) ∧ H' a = some (.frz o (.dT ws)) ∧ Ents K H' m' kvs ws
  | _ => True
def rdI (it : I) : TI := fun σ H R => ∃ m A aσ, RelH K m A H ∧ RSl K H m aσ σ ∧ FG K m H (evI c it aσ A) fun t _ m' H' => ∀ J, JOk K t m' H' J → FinOk K t H m' H' → R J H'
/-- but for some slots the same -/
def SameOut (l : List Nat) (σ σ' : L2.St) : Prop := σ'.length = σ.length ∧ ∀ i, i ∉ l → σ'[i]? = σ[i]?
def rdTg (t : T) : TG := fun v σ H Q => ∃ m A aσ av, RelH K m A H ∧ RSl K H m aσ σ ∧ RV K H m av v ∧ FG K m H (evTg c t av aσ A) fun aσ' _ m' H' => ∀ σ', RSl K H' m' aσ' σ' → SameOut (tslots t) σ σ' → Q σ' H'
def rdTs (ts : List T) : TGs := fun vs σ H Q => ∃ m A aσ avs, RelH K m A H ∧ RSl K H m aσ σ ∧ RVs K H m avs vs ∧ FG K m H (evTs c ts avs aσ A) fun aσ' _ m' H' => ∀ σ', RSl K H' m' aσ' σ' → SameOut (tslotss ts) σ σ' → Q σ' H'
/-- a def of the text, by the evaluator -/
def spEv (f : Str) : Sp := fun vs H Q _ => ∃ m A axs, RelH K m A H ∧ RVs K H m axs vs ∧ Fin K m H (c.fn f axs A) Q
end
structure CxOk (c : Cfg) (G : GI) (N : List Str) (k : Nat) (X : Cx) (sc : Scope) : Prop where
  sc : X.env.scope = sc
  N : X.N = N
  nd : X.N.Nodup
  calm : X.calm = true
  room : Room k X.A
  blt : ∀ x, isBlt x = true → X.mg x = none
  gcd : G.gcd = true → X.mg "gcd" = some (.builtin "math.gcd")
  con : ∀ x, (G.con x).isSome = true → ∃ v u w, c.gl x = some v ∧ X.mg x = some u ∧ RelV w u ∧ ∀ H m, RV X.K H m v w
  fn : ∀ x fi, G.fn x = some fi → ∃ f fd ps, X.mg x = some (.ref f) ∧ PySem.W.keepIn X.K (.ref f) = true ∧ FnOk X.prog X.w X.K X.mg X.base CX0 k f fd ps (spEv X.K c x) ∧
    ∀ d ∈ fi.dfs, ∃ dvs ds, Binds X.K fd ps ds ∧ Vals dvs ds ∧ ∀ H m, RVs X.K H m d dvs

theorem PE.mono {X : Cx} {e : Expr} {t t' : TE} (h : PE X e t) (f : ∀ σ H Q, t' σ H Q → t σ H Q) : PE X e t' := ⟨fun pins s σ H Q I q => h.run pins s σ H Q I (f σ H Q q)⟩
theorem PT.mono {X : Cx} {e : Expr} {t t' : TT} (h : PT X e t) (f : ∀ σ H Q, t' σ H Q → t σ H Q) : PT X e t' := ⟨fun pins s σ H Q I q => h.run pins s σ H Q I (f σ H Q q)⟩
theorem PW.mono {X : Cx} {e : Expr} {t t' : TT} (h : PW X e t) (f : ∀ σ H Q, t' σ H Q → t σ H Q) : PW X e t' := ⟨fun wh pins s σ H Q I q => h.run wh pins s σ H Q I (f σ H Q q)⟩
theorem PA.mono {X : Cx} {e : List Expr} {t t' : TA} (h : PA X e t) (f : ∀ σ H Q, t' σ H Q → t σ H Q) : PA X e t' := ⟨fun p pins s σ H Q I q => h.run p pins s σ H Q I (f σ H Q q)⟩
theorem PO.mono {X : Cx} {e : Option Expr} {t t' : TO} (h : PO X e t) (f : ∀ σ H Q, t' σ H Q → t σ H Q) : PO X e t' := ⟨fun pins s σ H Q I q => h.run pins s σ H Q I (f σ H Q q)⟩
theorem PI.mono {X : Cx} {tg e : Expr} {t t' : TI} (h : PI X tg e t) (f : ∀ σ H Q, t' σ H Q → t σ H Q) : PI X tg e t' := ⟨fun pins s σ H Q I q => h.run pins s σ H Q I (f σ H Q q)⟩
theorem PG.mono {X : Cx} {e : Expr} {t t' : TG} (h : PG X e t) (f : ∀ v σ H Q, t' v σ H Q → t v σ H Q) : PG X e t' := ⟨fun pins s σ H v u Q I r q => h.run pins s σ H v u Q I r (f v σ H Q q)⟩
theorem PGs.mono {X : Cx} {e : List Expr} {t t' : TGs} (h : PGs X e t) (f : ∀ v σ H Q, t' v σ H Q → t v σ H Q) : PGs X e t' := ⟨fun pins s σ H v u Q I r q => h.run pins s σ H v u Q I r (f v σ H Q q)⟩

/-! ### names, heads -/
theorem slotOf_get {N : List Str} {x : Str} {i : Nat} (h : slotOf N x = some i) : N[i]? = some x := by
  unfold slotOf at h
  split at h
  · split at h
    · rename_i e; cases h; exact e
    · cases h
  · cases h
theorem vis_of {sc : Scope} {x : Str} (h : visB sc x = true) : Vis sc x := by
  unfold visB at h; unfold Vis
  split at h <;> first | (rename_i e; rw [e]; simp) | cases h
theorem loc_of {sc : Scope} {x : Str} (h : locB sc x = true) : L2.Loc sc x := by
  unfold locB at h; unfold L2.Loc
  split at h <;> first | (rename_i e; rw [e]; simp) | cases h
theorem gl_of {X : Cx} {sc : Scope} {x : Str} (e : X.env.scope = sc) (h : glB sc x = true) : Gl X x := by
  unfold glB at h
  split at h
  · rename_i q; show X.env.scope.names.lookup x = _; rw [e]; exact q
  · cases h
theorem okName_of {x : Str} (h : okName x = true) : (x == ("__debug__" : Str)) = false ∧ (x == ("__classdict__" : Str)) = false ∧ x ≠ "__name__" := by
  unfold okName at h
  simp only [Bool.and_eq_true, bne_iff_ne, ne_eq] at h
  exact ⟨beq_eq_false_iff_ne.mpr h.1.1, beq_eq_false_iff_ne.mpr h.1.2, h.2⟩
theorem tyOf_boot {x : Str} {T : String} (h : tyOf x = some T) : bootBuiltins x = some (.type T) := by
  unfold tyOf at h
  repeat' split at h
  all_goals first | (rename_i e; subst e; cases h; decide +kernel) | (rename_i e _; subst e; cases h; decide +kernel) | (rename_i e _ _; subst e; cases h; decide +kernel) | (rename_i e _ _ _; subst e; cases h; decide +kernel) | (rename_i e _ _ _ _; subst e; cases h; decide +kernel) | (rename_i e _ _ _ _ _; subst e; cases h; decide +kernel) | cases h
/-- the head of a tree that is served -/
def NoStar (e : Expr) : Prop := (∀ v p, e ≠ .Starred v p) ∧ (∀ a b p, e ≠ .Set a b p)
theorem starEach_cons {e : Expr} {es : List Expr} {env : Env} (h : NoStar e) : starEach (e :: es) env = (false, eval e env) :: starEach es env := by
  cases e <;> first | rfl | exact absurd rfl (h.1 _ _)
theorem assignEach_cons {e : Expr} {es : List Expr} {env : Env} (h : NoStar e) : assignEach (e :: es) env = (false, assign e env) :: assignEach es env := by
  cases e <;> first | rfl | exact absurd rfl (h.1 _ _)
theorem starPlain {pos : Pos} {env : Env} : ∀ {es : List Expr}, (∀ e ∈ es, NoStar e) → (backTo pos (starEach es env)).any (·.1) = false
  | [], _ => rfl
  | e :: es, h => by
    rw [starEach_cons (h e (by simp))]
    have ih := starPlain (pos := pos) (env := env) (es := es) fun x hx => h x (List.mem_cons_of_mem _ hx)
    unfold backTo at ih ⊢
    rw [List.map_cons, List.any_cons, ih]
    rfl
theorem starAll {pos : Pos} {env : Env} : ∀ {es : List Expr}, (∀ e ∈ es, NoStar e) → (backTo pos (starEach es env)).all (fun x => !x.1) = true
  | [], _ => rfl
  | e :: es, h => by
    rw [starEach_cons (h e (by simp))]
    have ih := starAll (pos := pos) (env := env) (es := es) fun x hx => h x (List.mem_cons_of_mem _ hx)
    unfold backTo at ih ⊢
    rw [List.map_cons, List.all_cons, ih]
    rfl
theorem behind_of {op : CmpOp} {e : Expr} (h : NoStar e) : behindInMarks op e = false := by
  cases e <;> first | rfl | exact absurd rfl (h.2 _ _ _)
theorem lastMarks_of {op op' : CmpOp} {b e : Expr} (h : NoStar e) : lastMarks [op, op'] [b, e] = false := by
  show lastMarks [op'] [e] = false
  show behindInMarks op' e = false
  exact behind_of h
theorem folded_of {e : Expr} {env : Env} (h : NoStar e) : ∀ x, foldedSetIterable e env x = pure x := by
  intro x
  cases e <;> first | rfl | exact absurd rfl (h.2 _ _ _)
theorem attrBase_of {o : Expr} {f : Str} {env : Env} {w : Sem Value} (h : ∀ id p pos, o ≠ .Call (.Name id p) [] [] pos) : attributeBase o f env w = w := by
  unfold attributeBase
  split
  · rename_i id p pos; exact absurd rfl (h id p pos)
  · rfl
end Ev


set_option linter.all false
set_option maxRecDepth 100000
set_option maxHeartbeats 4000000
namespace Ev
open PySem PySem.Spec PyProof.Rows L2

section
variable {c : Cfg} {G : GI} {N : List Str} {k : Nat} {X : Cx} {sc : Scope}

theorem trE_noStar {n : Nat} {e : Expr} {e' : E} (h : trE G N n sc e = some e') : NoStar e := by
  cases n with
  | zero => simp [trE] at h
  | succ n => exact ⟨fun v p z => by subst z; simp [trE] at h, fun a b p z => by subst z; simp [trE] at h⟩
theorem trE_noSlice {n : Nat} {e : Expr} {e' : E} (h : trE G N n sc e = some e') : PlainIx e := by
  cases n with
  | zero => simp [trE] at h
  | succ n =>
    intro o i
    cases e <;> first | rfl | (exfalso; simp [trE] at h)
theorem noCall0_of {e : Expr} (h : noCall0 e = true) : ∀ id p pos, e ≠ .Call (.Name id p) [] [] pos := fun id p pos z => by subst z; simp [noCall0] at h
theorem trT_noStar {n : Nat} {fc : Str → Bool} {e : Expr} {t : T} (h : trT G N n fc sc e = some t) : NoStar e := by
  cases n with
  | zero => simp [trT] at h
  | succ n => exact ⟨fun v p z => by subst z; simp [trT] at h, fun a b p z => by subst z; simp [trT] at h⟩
theorem trEs_noStar : ∀ {n : Nat} {es : List Expr} {es' : List E}, trEs G N n sc es = some es' → ∀ e ∈ es, NoStar e
  | 0, _, _, h => by simp [trEs] at h
  | n + 1, [], _, _ => fun e he => by cases he
  | n + 1, e :: es, _, h => by
    simp only [trEs] at h
    split at h
    · rename_i a b h1 h2
      intro x hx
      rcases List.mem_cons.mp hx with e | hx
      · subst e; exact trE_noStar h1
      · exact trEs_noStar h2 x hx
    · cases h
theorem trEs_len : ∀ {n : Nat} {es : List Expr} {es' : List E}, trEs G N n sc es = some es' → es'.length = es.length
  | 0, _, _, h => by simp [trEs] at h
  | n + 1, [], _, h => by simp [trEs] at h; subst h; rfl
  | n + 1, e :: es, _, h => by
    simp only [trEs] at h
    split at h
    · rename_i a b h1 h2
      cases h
      rw [List.length_cons, List.length_cons, trEs_len h2]
    · cases h

theorem trE_notSlice {n : Nat} {e : Expr} {e' : E} (h : trE G N n sc e = some e') : ∀ l u s p, e ≠ .Slice l u s p := fun l u s p z => by
  subst z
  cases n with
  | zero => simp [trE] at h
  | succ n => simp [trE] at h

/-! ### one construct each -/
variable {a b d : Expr} {a' b' d' : E} {pos : Pos} {K : PySem.W.Frag} {σ : L2.St} {H : Hp} {Q : VK}
theorem FG.two {m : List Addr} {A : AH} {aσ : Sl} {P : AV → AV → AH → Res AV} {R' : AV → AV → AH → List Addr → Hp → V → V → Prop} (R : RelH K m A H) (S : RSl K H m aσ σ)
    (h : Fin K m H ((evE c a' aσ A).bind fun x A => (evE c b' aσ A).bind fun y A => P x y A) Q) {r : V → V → Hp → Prop}
    (f : ∀ v w A2 m2 H2 x y, RelH K m2 A2 H2 → RSl K H2 m2 aσ σ → RV K H2 m2 v x → RV K H2 m2 w y → Fin K m2 H2 (P v w A2) Q → r x y H2) :
    rdE K c a' σ H fun x H1 => rdE K c b' σ H1 fun y H2 => r x y H2 :=
  ⟨m, A, aσ, R, S, FG.imp (FG.bind h) fun v A1 m1 H1 t1 R1 h1 x rx => ⟨m1, A1, aσ, R1, S.mono t1, FG.imp (FG.bind h1) fun w A2 m2 H2 t2 R2 h2 y ry =>
    f v w A2 m2 H2 x y R2 ((S.mono t1).mono t2) (rx.mono t2) ry h2⟩⟩
theorem s_bin {o : BOp} (ha : PE X a (rdE X.K c a')) (hb : PE X b (rdE X.K c b')) : PE X (.BinOp a (opOf o) b pos) (rdE X.K c (.bin o a' b')) :=
  PE.mono (pe_op op_bin ha hb) fun σ H Q ⟨m, A, aσ, R, S, h⟩ => FG.two (R' := fun _ _ _ _ _ _ _ => True) R S h fun v w A2 m2 H2 x y R2 S2 rx ry h2 => ⟨m2, A2, v, w, R2, rx, ry, h2⟩
theorem s_neg (ha : PE X a (rdE X.K c a')) : PE X (.UnaryOp .USub a pos) (rdE X.K c (.neg a')) :=
  PE.mono (pe_un un_neg ha) fun σ H Q ⟨m, A, aσ, R, S, h⟩ => ⟨m, A, aσ, R, S, FG.imp (FG.bind h) fun v A1 m1 H1 t1 R1 h1 x rx => by
    cases rx with
    | int i => exact ⟨i, rfl, Fin.here R1 h1 (.int _)⟩
    | _ => exact False.elim h1⟩
theorem FG.cmp {m : List Addr} {A : AH} {o : Option Bool} (R : RelH K m A H) (h : Fin K m H (match o with | some k => .ok (.bl k) A | none => .bad) Q) : ∃ k, o = some k ∧ Q (.bl k) H := by
  cases o with
  | none => exact False.elim h
  | some k => exact ⟨k, rfl, Fin.here R h (.bl k)⟩
theorem rd_cmp {o : COp} (h : rdE K c (.cmp o a' b') σ H Q) : tOp (rCmp K (aCmp o)) (rdE K c a') (rdE K c b') σ H Q := by
  obtain ⟨m, A, aσ, R, S, h⟩ := h
  refine FG.two (R' := fun _ _ _ _ _ _ _ => True) R S h fun v w A2 m2 H2 x y R2 S2 rx ry h2 => ?_
  obtain ⟨k, e, q⟩ := FG.cmp R2 h2
  exact ⟨m2, A2, v, w, k, R2, rx, ry, e, q⟩
theorem tru_ok' {m : List Addr} {A : AH} {x : AV} {P : Bool → AH → List Addr → Hp → Prop} (R : RelH K m A H) (h : FG K m H (tru x A) P) : ∃ k, truth A x = some k ∧ P k A m H := by
  unfold tru at h
  cases q : truth A x with
  | none => rw [q] at h; exact False.elim h
  | some k => rw [q] at h; exact ⟨k, rfl, h m H Tr.refl R⟩
/-- a test by the value's truth -/
theorem rd_truth {Q : Bool → Hp → Prop} (h : rdT K c a' σ H Q) : rdE K c a' σ H fun x H1 => ∃ k, TruV K x H1 k ∧ Q k H1 := by
  obtain ⟨m, A, aσ, R, S, h⟩ := h
  refine ⟨m, A, aσ, R, S, FG.imp (FG.bind h) fun v A1 m1 H1 t1 R1 h1 x rx => ?_⟩
  obtain ⟨k, e, q⟩ := tru_ok' R1 h1
  exact ⟨k, R1.truth rx e, q⟩
/-- .. of a value that is a bool -/
theorem rd_test {Q : Bool → Hp → Prop} (hb : ∀ aσ A v A', evE c a' aσ A = .ok v A' → ∃ b, v = .bl b) (h : rdT K c a' σ H Q) : rdE K c a' σ H fun x H1 => ∃ k, x = .bl k ∧ Q k H1 := by
  obtain ⟨m, A, aσ, R, S, h⟩ := h
  refine ⟨m, A, aσ, R, S, ?_⟩
  have h := FG.bind h
  cases e : evE c a' aσ A with
  | bad => rw [e] at h; exact False.elim h
  | ok v A1 =>
    rw [e] at h
    obtain ⟨b, rfl⟩ := hb _ _ _ _ e
    intro m1 H1 t1 R1 x rx
    obtain ⟨k, e2, q⟩ := tru_ok' R1 (h m1 H1 t1 R1)
    cases e2
    cases rx
    exact ⟨_, rfl, q⟩
theorem bl_of_cmp {o : COp} {aσ : Sl} {A : AH} {v : AV} {A' : AH} (h : evE c (.cmp o a' b') aσ A = .ok v A') : ∃ b, v = .bl b := by
  simp only [evE] at h
  cases e1 : evE c a' aσ A with
  | bad => simp [e1, Res.bind] at h
  | ok x A1 =>
    simp only [e1, Res.bind] at h
    cases e2 : evE c b' aσ A1 with
    | bad => simp [e2, Res.bind] at h
    | ok y A2 =>
      simp only [e2] at h
      split at h
      · cases h; exact ⟨_, rfl⟩
      · cases h
theorem bl_of_chain {o p : COp} {aσ : Sl} {A : AH} {v : AV} {A' : AH} (h : evE c (.chain o p a' b' d') aσ A = .ok v A') : ∃ b, v = .bl b := by
  simp only [evE] at h
  cases e1 : evE c a' aσ A with
  | bad => simp [e1, Res.bind] at h
  | ok x A1 =>
    simp only [e1, Res.bind] at h
    cases e2 : evE c b' aσ A1 with
    | bad => simp [e2, Res.bind] at h
    | ok y A2 =>
      simp only [e2] at h
      split at h
      · cases e3 : evE c d' aσ A2 with
        | bad => simp [e3] at h
        | ok z A3 =>
          simp only [e3] at h
          split at h
          · cases h; exact ⟨_, rfl⟩
          · cases h
      · cases h; exact ⟨_, rfl⟩
      · cases h
theorem s_cmp {o : CmpOp} (hu : X.A.units + 65 < cLine) (hs : NoStar b) (ha : PE X a (rdE X.K c a')) (hb : PE X b (rdE X.K c b')) :
    PE X (.Compare a [o] [b] pos) (rdE X.K c (.cmp (copOf o) a' b')) ∧ PT X (.Compare a [o] [b] pos) (rdT X.K c (.cmp (copOf o) a' b')) := by
  have ho := op_cmp (X := X) (o := copOf o) hu
  rw [cmOf_cop] at ho
  exact ⟨PE.mono (pe_cmpR ho ha hb (behind_of hs)) fun σ H Q h => rd_cmp h, PT.mono (pt_cmpR ho ha hb (behind_of hs)) fun σ H Q h => rd_cmp (rd_test (fun _ _ _ _ e => bl_of_cmp e) h)⟩
theorem rd_chain {o p : COp} (h : rdE K c (.chain o p a' b' d') σ H Q) : tChain (rCmp K (aCmp o)) (rCmp K (aCmp p)) (rdE K c a') (rdE K c b') (rdE K c d') σ H Q := by
  obtain ⟨m, A, aσ, R, S, h⟩ := h
  refine FG.two (R' := fun _ _ _ _ _ _ _ => True) R S h fun v w A2 m2 H2 x y R2 S2 rx ry h2 => ?_
  cases e : aCmp o v w A2 with
  | none => rw [e] at h2; exact False.elim h2
  | some k =>
    rw [e] at h2
    refine ⟨m2, A2, v, w, k, R2, rx, ry, e, k, rfl, ?_⟩
    cases k with
    | false => rw [if_neg Bool.false_ne_true]; exact Fin.here R2 h2 (.bl false)
    | true =>
      rw [if_pos rfl]
      refine ⟨m2, A2, aσ, R2, S2, FG.imp (FG.bind h2) fun z A3 m3 H3 t3 R3 h3 u ru => ?_⟩
      obtain ⟨k', e', q⟩ := FG.cmp R3 h3
      exact ⟨m3, A3, w, z, k', R3, ry.mono t3, ru, e', q⟩
theorem s_chain {o p : CmpOp} (hu : X.A.units + 65 < cLine) (hs : NoStar d) (ha : PE X a (rdE X.K c a')) (hb : PE X b (rdE X.K c b')) (hd : PE X d (rdE X.K c d')) :
    PE X (.Compare a [o, p] [b, d] pos) (rdE X.K c (.chain (copOf o) (copOf p) a' b' d')) ∧ PT X (.Compare a [o, p] [b, d] pos) (rdT X.K c (.chain (copOf o) (copOf p) a' b' d')) := by
  have ho := op_cmp (X := X) (o := copOf o) hu
  have hp := op_cmp (X := X) (o := copOf p) hu
  rw [cmOf_cop] at ho hp
  exact ⟨PE.mono (pe_chain ho hp ha hb hd (lastMarks_of hs)) fun σ H Q h => rd_chain h, PT.mono (pt_chain ho hp ha hb hd (lastMarks_of hs)) fun σ H Q h => rd_chain (rd_test (fun _ _ _ _ e => bl_of_chain e) h)⟩
theorem s_not (ha : PE X a (rdE X.K c a')) (ht : PT X a (rdT X.K c a')) : PE X (.UnaryOp .Not a pos) (rdE X.K c (.not a')) ∧ PT X (.UnaryOp .Not a pos) (rdT X.K c (.not a')) := by
  refine ⟨PE.mono (pe_notT ha) fun σ H Q ⟨m, A, aσ, R, S, h⟩ => ⟨m, A, aσ, R, S, FG.imp (FG.bind h) fun v A1 m1 H1 t1 R1 h1 x rx => ?_⟩, PT.mono (pt_not ht) fun σ H Q ⟨m, A, aσ, R, S, h⟩ => ⟨m, A, aσ, R, S, ?_⟩⟩
  · cases e : truth A1 v with
    | none => rw [e] at h1; exact False.elim h1
    | some k => rw [e] at h1; exact ⟨k, R1.truth rx e, Fin.here R1 h1 (.bl _)⟩
  · unfold evT at h ⊢
    simp only [evE] at h
    cases e : evE c a' aσ A with
    | bad => rw [e] at h; exact False.elim h
    | ok v A1 =>
      rw [e] at h
      simp only [Res.bind] at h ⊢
      unfold tru at h ⊢
      cases e2 : truth A1 v with
      | none => rw [e2] at h; exact False.elim h
      | some k => rw [e2] at h; exact h
theorem s_ite (hq : PT X a (rdT X.K c a')) (hb : PE X b (rdE X.K c b')) (hd : PE X d (rdE X.K c d')) : PE X (.IfExp a b d pos) (rdE X.K c (.ite a' b' d')) :=
  PE.mono (pe_ifExp hq hb hd) fun σ H Q ⟨m, A, aσ, R, S, h⟩ => ⟨m, A, aσ, R, S, FG.imp (FG.bind h) fun k A1 m1 H1 t1 R1 h1 => by
    cases k with
    | true => rw [if_pos rfl]; exact ⟨m1, A1, aσ, R1, S.mono t1, h1⟩
    | false => rw [if_neg Bool.false_ne_true]; exact ⟨m1, A1, aσ, R1, S.mono t1, h1⟩⟩
theorem s_truth (he : ∀ whole, isTrue a X.env whole = (do let v ← whole; standAt a.pos; holding [v] (truthy v))) (ha : PE X a (rdE X.K c a')) : PT X a (rdT X.K c a') :=
  PT.mono (pt_truth ha he) fun σ H Q h => rd_truth h
/-- and, or: one, and one more -/
theorem s_and {rest : List Expr} {r' : E} {pos : Pos} (ha : PE X a (rdE X.K c a')) (ht : PT X a (rdT X.K c a')) (hr : PE X (.BoolOp .And (b :: rest) pos) (rdE X.K c r')) (hw : PW X (.BoolOp .And (b :: rest) pos) (rdT X.K c r')) :
    PE X (.BoolOp .And (a :: b :: rest) pos) (rdE X.K c (.and a' r')) ∧ PW X (.BoolOp .And (a :: b :: rest) pos) (rdT X.K c (.and a' r')) := by
  refine ⟨PE.mono (pe_andT ha hr) fun σ H Q ⟨m, A, aσ, R, S, h⟩ => ⟨m, A, aσ, R, S, FG.imp (FG.bind h) fun v A1 m1 H1 t1 R1 h1 x rx => ?_⟩, PW.mono (pw_and ht hw) fun σ H Q ⟨m, A, aσ, R, S, h⟩ => ⟨m, A, aσ, R, S, ?_⟩⟩
  · cases e : truth A1 v with
    | none => rw [e] at h1; exact False.elim h1
    | some k =>
      rw [e] at h1
      refine ⟨k, R1.truth rx e, ?_⟩
      cases k with
      | true => rw [if_pos rfl]; exact ⟨m1, A1, aσ, R1, S.mono t1, h1⟩
      | false => rw [if_neg Bool.false_ne_true]; exact Fin.here R1 h1 rx
  · unfold evT at h
    simp only [evE] at h
    unfold FinT evT
    cases e : evE c a' aσ A with
    | bad => rw [e] at h; exact False.elim h
    | ok v A1 =>
      rw [e] at h
      simp only [Res.bind] at h ⊢
      unfold tru
      cases e2 : truth A1 v with
      | none => rw [e2] at h; exact False.elim h
      | some k =>
        rw [e2] at h
        intro m1 H1 t1 R1
        cases k with
        | true => simp only [if_pos]; exact ⟨m1, A1, aσ, R1, S.mono t1, FG.shift h t1⟩
        | false =>
          simp only at h
          unfold tru at h
          rw [e2] at h
          simp only [Bool.false_eq_true, if_false]
          exact h m1 H1 t1 R1
theorem s_or {rest : List Expr} {r' : E} {pos : Pos} (ha : PE X a (rdE X.K c a')) (ht : PT X a (rdT X.K c a')) (hr : PE X (.BoolOp .Or (b :: rest) pos) (rdE X.K c r')) (hw : PW X (.BoolOp .Or (b :: rest) pos) (rdT X.K c r')) :
    PE X (.BoolOp .Or (a :: b :: rest) pos) (rdE X.K c (.or a' r')) ∧ PW X (.BoolOp .Or (a :: b :: rest) pos) (rdT X.K c (.or a' r')) := by
  refine ⟨PE.mono (pe_orT ha hr) fun σ H Q ⟨m, A, aσ, R, S, h⟩ => ⟨m, A, aσ, R, S, FG.imp (FG.bind h) fun v A1 m1 H1 t1 R1 h1 x rx => ?_⟩, PW.mono (pw_or ht hw) fun σ H Q ⟨m, A, aσ, R, S, h⟩ => ⟨m, A, aσ, R, S, ?_⟩⟩
  · cases e : truth A1 v with
    | none => rw [e] at h1; exact False.elim h1
    | some k =>
      rw [e] at h1
      refine ⟨k, R1.truth rx e, ?_⟩
      cases k with
      | true => rw [if_pos rfl]; exact Fin.here R1 h1 rx
      | false => rw [if_neg Bool.false_ne_true]; exact ⟨m1, A1, aσ, R1, S.mono t1, h1⟩
  · unfold evT at h
    simp only [evE] at h
    unfold FinT evT
    cases e : evE c a' aσ A with
    | bad => rw [e] at h; exact False.elim h
    | ok v A1 =>
      rw [e] at h
      simp only [Res.bind] at h ⊢
      unfold tru
      cases e2 : truth A1 v with
      | none => rw [e2] at h; exact False.elim h
      | some k =>
        rw [e2] at h
        intro m1 H1 t1 R1
        cases k with
        | false => simp only [Bool.false_eq_true, if_false]; exact ⟨m1, A1, aσ, R1, S.mono t1, FG.shift h t1⟩
        | true =>
          simp only at h
          unfold tru at h
          rw [e2] at h
          simp only [if_pos]
          exact h m1 H1 t1 R1
/-- arguments -/
theorem s_nil : PA X [] (rdEs X.K c []) := PA.mono pa_nil fun σ H Q ⟨m, A, aσ, R, S, h⟩ => h m H Tr.refl R [] .nil
theorem s_cons {es : List Expr} {es' : List E} (hs : NoStar a) (ha : PE X a (rdE X.K c a')) (hr : PA X es (rdEs X.K c es')) : PA X (a :: es) (rdEs X.K c (a' :: es')) :=
  PA.mono (pa_cons ha hr (starEach_cons hs)) fun σ H Q ⟨m, A, aσ, R, S, h⟩ => ⟨m, A, aσ, R, S, FG.imp (FG.bind h) fun v A1 m1 H1 t1 R1 h1 x rx =>
    ⟨m1, A1, aσ, R1, S.mono t1, FG.imp (FG.bind h1) fun vs A2 m2 H2 t2 R2 h2 ys ry => h2 m2 H2 Tr.refl R2 _ (.cons (rx.mono t2) ry)⟩⟩
theorem s_tup {es : List Expr} {es' : List E} {x1} (h : PA X es (rdEs X.K c es')) : PE X (.Tuple es x1 pos) (rdE X.K c (.tup es')) :=
  PE.mono (pe_tup h) fun σ H Q ⟨m, A, aσ, R, S, h⟩ => ⟨m, A, aσ, R, S, FG.imp (FG.bind h) fun vs A1 m1 H1 t1 R1 h1 ys ry => by
    split at h1
    · rename_i hz
      rw [ry.length] at hz
      exact ⟨hz, fun p np => Fin.tupNew R1 h1 ry np⟩
    · exact False.elim h1⟩
theorem s_ix (hu : X.A.units + 65 < cLine) (hp : PlainIx b) (ha : PE X a (rdE X.K c a')) (hb : PE X b (rdE X.K c b')) : PE X (.Subscript a b pos) (rdE X.K c (.ix a' b')) :=
  PE.mono (pe_ix (ix_A hu) ha hb hp) fun σ H Q ⟨m, A, aσ, R, S, h⟩ => FG.two (R' := fun _ _ _ _ _ _ _ => True) R S h fun v w A2 m2 H2 x y R2 S2 rx ry h2 => by
    cases e : aIx v w A2 with
    | none => rw [e] at h2; exact False.elim h2
    | some u => rw [e] at h2; exact ⟨m2, A2, v, w, u, R2, rx, ry, e, fun z rz => Fin.here R2 h2 rz⟩
theorem s_ono : PO X none (rdO X.K c none) := PO.mono po_none fun σ H Q ⟨m, A, aσ, R, S, h⟩ => h m H Tr.refl R
theorem s_osome (ha : PE X a (rdE X.K c a')) : PO X (some a) (rdO X.K c (some a')) :=
  PO.mono (po_some ha) fun σ H Q ⟨m, A, aσ, R, S, h⟩ => ⟨m, A, aσ, R, S, FG.imp (FG.bind h) fun v A1 m1 H1 t1 R1 h1 x rx => by
    cases rx with
    | int i => exact ⟨i, rfl, h1 m1 H1 Tr.refl R1⟩
    | _ => exact False.elim h1⟩
theorem s_sl {lo hi : Option Expr} {lo' hi' : Option E} {p2 : Pos} (ha : PE X a (rdE X.K c a')) (hl : PO X lo (rdO X.K c lo')) (hh : PO X hi (rdO X.K c hi')) : PE X (.Subscript a (.Slice lo hi none p2) pos) (rdE X.K c (.sl a' lo' hi')) :=
  PE.mono (pe_slice sl_A ha hl hh) fun σ H Q ⟨m, A, aσ, R, S, h⟩ => ⟨m, A, aσ, R, S, FG.imp (FG.bind h) fun v A1 m1 H1 t1 R1 h1 x rx =>
    ⟨m1, A1, aσ, R1, S.mono t1, FG.imp (FG.bind h1) fun l A2 m2 H2 t2 R2 h2 => ⟨m2, A2, aσ, R2, (S.mono t1).mono t2, FG.imp (FG.bind h2) fun u A3 m3 H3 t3 R3 h3 => ⟨m3, A3, v, R3, (rx.mono t2).mono t3, h3⟩⟩⟩⟩
theorem rd_args {es' : List E} {f : List AV → AH → Res AV} {m : List Addr} {A : AH} {aσ : Sl} (R : RelH K m A H) (S : RSl K H m aσ σ) (h : Fin K m H ((evEs c es' aσ A).bind f) Q) : rdEs K c es' σ H fun vs H1 => rCallA K f vs H1 Q :=
  ⟨m, A, aσ, R, S, FG.imp (FG.bind h) fun vs A1 m1 H1 t1 R1 h1 ys ry => ⟨m1, A1, vs, R1, ry, h1⟩⟩
/-- a new list that is kept -/
theorem s_new {l : L} (h : PE X a (rdL X.K c l)) : PE X a (rdE X.K c (.new l)) := by
  refine PE.mono h fun σ H Q ⟨m, A, aσ, R, S, h⟩ => ⟨m, A, aσ, R, S, ?_⟩
  simp only [evE] at h
  cases e : evL c l aσ A with
  | bad => rw [e] at h; exact False.elim h
  | ok vs A1 =>
    rw [e] at h
    intro m1 H1 t1 R1 D ys hD nD nH ry
    have st : Stay X.K m1 H1 (m1 ++ [D]) H1 := ⟨fun i c e => by rw [List.getElem?_append_left (List.getElem?_eq_some_iff.mp e).1]; exact e, fun _ _ e => e, fun _ _ e => e, fun _ _ _ e => e⟩
    refine h (m1 ++ [D]) H1 (t1.adopt nH) (R1.adopt nD ⟨ys, hD, RVs.mono0 st ry⟩) _ (.ref ?_)
    rw [← R1.len, List.getElem?_append_right (Nat.le_refl _)]; simp
theorem rd_new {l : L} {f : LF} (h : rdE K c (.lf f l) σ H Q) : tCB (rCallF K (aLF f)) (tCons (rdL K c l) tNil) σ H Q := by
  obtain ⟨m, A, aσ, R, S, h⟩ := h
  exact ⟨m, A, aσ, R, S, FG.imp (FG.bind h) fun vs A1 m1 H1 t1 R1 h1 D ys hD nD nH ry => ⟨m1, A1, vs, ys, D, rfl, .of hD, R1, ry, h1⟩⟩
/-- a written list -/
theorem s_disp {es : List Expr} {es' : List E} (h : PA X es (rdEs X.K c es')) : PE X (.List es pos) (rdL X.K c (.disp es')) := by
  refine PE.mono (pe_lst h) fun σ H Q ⟨m, A, aσ, R, S, h⟩ => ⟨m, A, aσ, R, S, ?_⟩
  simp only [evL] at h
  cases e : evEs c es' aσ A with
  | bad => rw [e] at h; exact False.elim h
  | ok vs A1 =>
    rw [e] at h
    simp only [Res.bind] at h
    intro m1 H1 t1 R1 ys ry
    split at h
    · rename_i hz
      rw [ry.length] at hz
      refine ⟨hz, fun p np => ?_⟩
      have t2 : Tr m1 H1 m1 (upd H1 p (.lst ys)) := Tr.more R1 np
      refine h m1 _ (t1.trans t2) (R1.more np) p ys upd_same (R1.fresh np) ?_ (ry.mono t2)
      cases q : H p with
      | none => rfl
      | some o =>
        exfalso
        by_cases hm : p ∈ m
        · obtain ⟨u, e, _⟩ := R1.there (List.IsPrefix.subset t1.pre hm)
          rw [np] at e; cases e
        · have := t1.keep p o q hm
          rw [np] at this; cases this
    · exact False.elim h
/-- built-ins -/
theorem s_bif1 {es : List Expr} {x : Str} {id : String} {p : Pos} {f : Bif} {es' : List E} (hc : CallR X (.builtin id) (rCallA X.K (aBif f))) (hg : Gl X x) (hm : X.mg x = none) (hv : bootBuiltins x = some (.builtin id)) (hx : okName x = true)
    (ns : ∀ e ∈ a :: es, NoStar e) (ha : PA X (a :: es) (rdEs X.K c es')) : PE X (.Call (.Name x p) (a :: es) [] pos) (rdE X.K c (.bif f es')) :=
  PE.mono (pe_callB hc hg hm hv ha (okName_of hx).2.2 (okName_of hx).1 (starEach_cons (ns a (by simp))) (starPlain fun e he => ns e (List.mem_cons_of_mem _ he))) fun σ H Q ⟨m, A, aσ, R, S, h⟩ => rd_args R S h
theorem s_bifT {es : List Expr} {x : Str} {id : String} {p : Pos} {f : Bif} {es' : List E} (hc : CallR X (.type id) (rCallA X.K (aBif f))) (hg : Gl X x) (hm : X.mg x = none) (hv : bootBuiltins x = some (.type id)) (hx : okName x = true)
    (ns : ∀ e ∈ a :: es, NoStar e) (ha : PA X (a :: es) (rdEs X.K c es')) : PE X (.Call (.Name x p) (a :: es) [] pos) (rdE X.K c (.bif f es')) :=
  PE.mono (pe_callTy hc hg hm hv ha (okName_of hx).2.2 (okName_of hx).1 (starEach_cons (ns a (by simp))) (starPlain fun e he => ns e (List.mem_cons_of_mem _ he))) fun σ H Q ⟨m, A, aσ, R, S, h⟩ => rd_args R S h
theorem s_gcd {es : List Expr} {x : Str} {p : Pos} {es' : List E} (hg : Gl X x) (hm : X.mg x = some (.builtin "math.gcd")) (hx : okName x = true)
    (ns : ∀ e ∈ a :: es, NoStar e) (ha : PA X (a :: es) (rdEs X.K c es')) : PE X (.Call (.Name x p) (a :: es) [] pos) (rdE X.K c (.bif .gcd es')) :=
  PE.mono (pe_callBfun cb_gcd hg hm ha (okName_of hx).1 (starEach_cons (ns a (by simp))) (starPlain fun e he => ns e (List.mem_cons_of_mem _ he))) fun σ H Q ⟨m, A, aσ, R, S, h⟩ => rd_args R S h
theorem s_lf1 {x : Str} {id : String} {p : Pos} {f : LF} {l : L} (hc : CallR X (.builtin id) (rCallF X.K (aLF f))) (hg : Gl X x) (hm : X.mg x = none) (hv : bootBuiltins x = some (.builtin id)) (hx : okName x = true)
    (ns : NoStar a) (ha : PE X a (rdL X.K c l)) : PE X (.Call (.Name x p) [a] [] pos) (rdE X.K c (.lf f l)) :=
  PE.mono (pe_callB hc hg hm hv (pa_cons ha pa_nil (starEach_cons ns)) (okName_of hx).2.2 (okName_of hx).1 (starEach_cons ns) rfl) fun σ H Q h => rd_new h
theorem s_lfT {x : Str} {id : String} {p : Pos} {f : LF} {l : L} (hc : CallR X (.type id) (rCallF X.K (aLF f))) (hg : Gl X x) (hm : X.mg x = none) (hv : bootBuiltins x = some (.type id)) (hx : okName x = true)
    (ns : NoStar a) (ha : PE X a (rdL X.K c l)) : PE X (.Call (.Name x p) [a] [] pos) (rdE X.K c (.lf f l)) :=
  PE.mono (pe_callTy hc hg hm hv (pa_cons ha pa_nil (starEach_cons ns)) (okName_of hx).2.2 (okName_of hx).1 (starEach_cons ns) rfl) fun σ H Q h => rd_new h
theorem RVs.lenV {m : List Addr} {xs : List AV} {ys : List V} (r : RVs K H m xs ys) : xs.length = ys.length := r.length
/-- own defs -/
theorem s_call {es : List Expr} {x : Str} {p : Pos} {es' : List E} {f : Addr} {fd : FuncData} {ps : List Str} {dvs : List V} {ds : List Value} {dflt : List AV} (F : FnOk X.prog X.w X.K X.mg X.base CX0 k f fd ps (spEv X.K c x)) (hr : Room k X.A) (hg : Gl X x)
    (hm : X.mg x = some (.ref f)) (hk : PySem.W.keepIn X.K (.ref f) = true) (hb : Binds X.K fd ps ds) (hd : Vals dvs ds) (hdf : ∀ H m, RVs X.K H m dflt dvs) (hx : okName x = true) (ns : ∀ e ∈ a :: es, NoStar e) (ha : PA X (a :: es) (rdEs X.K c es')) :
    PE X (.Call (.Name x p) (a :: es) [] pos) (rdE X.K c (.call x es' dflt)) :=
  PE.mono (pe_call F hr hg hm hk hb hd (E := E0) (fun _ _ _ _ _ _ _ h => h.elim) ha (okName_of hx).1 (starEach_cons (ns a (by simp))) (starPlain fun e he => ns e (List.mem_cons_of_mem _ he))) fun σ H Q ⟨m, A, aσ, R, S, h⟩ =>
    ⟨m, A, aσ, R, S, FG.imp (FG.bind h) fun vs A1 m1 H1 t1 R1 h1 ys ry => ⟨m1, A1, vs ++ dflt, R1, ry.append (hdf _ _), h1⟩⟩
theorem s_call0 {x : Str} {p : Pos} {f : Addr} {fd : FuncData} {ps : List Str} {dvs : List V} {ds : List Value} {dflt : List AV} (F : FnOk X.prog X.w X.K X.mg X.base CX0 k f fd ps (spEv X.K c x)) (hr : Room k X.A) (hg : Gl X x)
    (hm : X.mg x = some (.ref f)) (hk : PySem.W.keepIn X.K (.ref f) = true) (hb : Binds X.K fd ps ds) (hd : Vals dvs ds) (hdf : ∀ H m, RVs X.K H m dflt dvs) (hx : okName x = true) :
    PE X (.Call (.Name x p) [] [] pos) (rdE X.K c (.call x [] dflt)) :=
  PE.mono (pe_call0 F hr hg hm hk hb hd (E := E0) (fun _ _ _ _ _ _ _ h => h.elim) (okName_of hx).1) fun σ H Q ⟨m, A, aσ, R, S, h⟩ => ⟨m, A, dflt, R, hdf _ _, h⟩
theorem s_dnew : PE X (.Dict [] [] pos) (rdE X.K c .dnew) := PE.mono pe_dnewT fun σ H Q ⟨m, A, aσ, R, S, h⟩ => fun p np => Fin.dctNew h R np
theorem s_lrange (hc : X.calm = true) {p p2 pos2 : Pos} (hg : Gl X "list") (hg2 : Gl X "range") (hm : X.mg "list" = none) (hm2 : X.mg "range" = none) (ns : NoStar b) (hb : PE X b (rdE X.K c b')) : PE X (.Call (.Name "list" p) [.Call (.Name "range" p2) [b] [] pos2] [] pos) (rdE X.K c (.lrange b')) := by
  have n1 : NoStar (.Call (.Name "range" p2) [b] [] pos2) := ⟨fun v p z => (by cases z), fun u v p z => (by cases z)⟩
  refine PE.mono (pe_callTy (cr_list_rng hc) hg hm (by decide +kernel) (pa_cons (pe_callTy cr_range1 hg2 hm2 (by decide +kernel) (pa_cons hb pa_nil (starEach_cons ns)) (he := starEach_cons ns)) pa_nil (starEach_cons n1)) (he := starEach_cons n1)) fun σ H Q ⟨m, A, aσ, R, S, h⟩ => ?_
  refine ⟨m, A, aσ, R, S, FG.imp (FG.bind h) fun v A1 m1 H1 t1 R1 h1 x rx => ?_⟩
  cases rx with
  | int j =>
    simp only at h1
    split at h1
    · rename_i hz
      refine ⟨j, rfl, fun q nq => ⟨q, j, rfl, upd_same, hz, fun l nl => ?_⟩⟩
      have t2 : Tr m1 H1 m1 (upd H1 q (.rng 0 j)) := Tr.more R1 nq
      refine Fin.lstNew (xs := (List.range j.toNat).map fun (k : Nat) => AV.int k) (R1.more nq) (FG.shift h1 t2) ?_ nl
      generalize List.range j.toNat = L
      induction L with
      | nil => exact .nil
      | cons k r ih => exact .cons (.int _) ih
    · exact False.elim h1
  | _ => exact False.elim h1
/-- methods -/
theorem ty_lst {m : List Addr} {A : AH} {f : Mth} {v : AV} {x : V} (R : RelH K m A H) (r : RV K H m v x) (hf : f.dict = false) (ht : f.txt = false) (h : mthTy f v A = true) : tyV K "list" x H := by
  unfold mthTy at h
  cases r with
  | pt _ _ => cases f <;> first | (cases ht; done) | cases h
  | str _ => cases f <;> first | (cases ht; done) | cases h
  | @ref n a hm =>
    simp only at h
    split at h
    · rename_i ys q
      obtain ⟨zs, e, _⟩ := R.of hm q
      exact .inl ⟨rfl, zs, .of e⟩
    · rw [hf] at h; cases h
    · cases h
  | _ => cases h
theorem ty_dct {m : List Addr} {A : AH} {f : Mth} {v : AV} {x : V} (R : RelH K m A H) (r : RV K H m v x) (hf : f.dict = true) (h : mthTy f v A = true) : tyV K "dict" x H := by
  unfold mthTy at h
  cases r with
  | pt _ _ => cases f <;> first | (cases hf; done) | cases h
  | str _ => cases f <;> first | (cases hf; done) | cases h
  | @ref n a hm =>
    simp only at h
    split at h
    · rw [hf] at h; cases h
    · rename_i ys q
      obtain ⟨zs, ⟨_, e⟩ | ⟨z, _⟩, _⟩ := R.of hm q
      · exact .inr (.inr (.inl ⟨rfl, .inr ⟨zs, e⟩⟩))
      · cases z
    · cases h
  | _ => cases h
theorem rd_mthD {f : Mth} (hf : f.dict = true) {es' : List E} (h : rdE K c (.mth f a' es') σ H Q) : tBM K "dict" (rMth K f) (rdE K c a') (rdEs K c es') σ H Q := by
  obtain ⟨m, A, aσ, R, S, h⟩ := h
  refine ⟨m, A, aσ, R, S, FG.imp (FG.bind h) fun v A1 m1 H1 t1 R1 h1 x rx => ?_⟩
  split at h1
  · rename_i hz
    exact ⟨ty_dct R1 rx hf hz, m1, A1, aσ, R1, S.mono t1, FG.imp (FG.bind h1) fun vs A2 m2 H2 t2 R2 h2 ys ry => ⟨m2, A2, v, vs, R2, rx.mono t2, ry, h2⟩⟩
  · exact False.elim h1
theorem rd_mth0 {f : Mth} (hf : f.dict = false) (ht : f.txt = false) (h : rdE K c (.mth f a' []) σ H Q) : tBM0 K "list" (rMth K f) (rdE K c a') σ H Q := by
  obtain ⟨m, A, aσ, R, S, h⟩ := h
  refine ⟨m, A, aσ, R, S, FG.imp (FG.bind h) fun v A1 m1 H1 t1 R1 h1 x rx => ?_⟩
  split at h1
  · rename_i hz
    exact ⟨ty_lst R1 rx hf ht hz, m1, A1, v, [], R1, rx, .nil, h1⟩
  · exact False.elim h1
theorem rd_mth {f : Mth} (hf : f.dict = false) (ht : f.txt = false) {es' : List E} (h : rdE K c (.mth f a' es') σ H Q) : tBM K "list" (rMth K f) (rdE K c a') (rdEs K c es') σ H Q := by
  obtain ⟨m, A, aσ, R, S, h⟩ := h
  refine ⟨m, A, aσ, R, S, FG.imp (FG.bind h) fun v A1 m1 H1 t1 R1 h1 x rx => ?_⟩
  split at h1
  · rename_i hz
    exact ⟨ty_lst R1 rx hf ht hz, m1, A1, aσ, R1, S.mono t1, FG.imp (FG.bind h1) fun vs A2 m2 H2 t2 R2 h2 ys ry => ⟨m2, A2, v, vs, R2, rx.mono t2, ry, h2⟩⟩
  · exact False.elim h1
/-! ### methods of texts, of tuples, and what lists and tuples share -/
def tyP (K : PySem.W.Frag) (T : String) (x : V) (H : Hp) : Prop := tyV K T x H ∨ (T = "tuple" ∧ ∃ p o ys, x = V.ref p ∧ H p = some (.frz o (.tup ys)) ∧ o.dict = none)
theorem tyP_is {pins : List (Addr × Obj)} {s : Shared} {T : String} {x : V} {v : Value} (I : Inv X pins σ H s) (r : RelV x v) (ty : tyP X.K T x H) : s.TypeIs v T ∧ ∀ a, v = .ref a → ∃ ob, s.heap.get? a = some ob ∧ ob.dict = none := by
  rcases ty with ty | ⟨rfl, p, o, ys, rfl, h, hd⟩
  · exact tyV_is I r ty
  · obtain rfl : v = Value.ref p := r
    obtain ⟨e, _, its, _, o', e', hc, _⟩ := (show ObjOk X.prog X.w H s.heap p (.frz o (.tup ys)) from I.hok p _ h)
    rw [e] at e'
    cases e'
    refine ⟨⟨o, e, hc⟩, fun a z => ?_⟩
    cases z
    exact ⟨o, e, hd⟩
def tBMD (X : Cx) (name : Str) (to : TE) (t : TA) : TE := fun σ H Q => to σ H fun x H1 => ∃ (T id : String) (r : V → List V → Hp → VK → Prop), PlainAttrs T ∧ Slot T name id ∧ typeOf (.builtin id) = pure (.type "method_descriptor") ∧ MtR X id r ∧ tyP X.K T x H1 ∧ t σ H1 fun xs H2 => r x xs H2 Q
theorem pe_bmD {o e : Expr} {es : List Expr} {to : TE} {t : TA} {name : Str} {apos cpos : Pos} (ho : PE X o to) (ha : PA X (e :: es) t)
    (hbase : attributeBase o name X.env (eval o X.env) = eval o X.env)
    (hfew : ((backTo cpos (starEach (e :: es) X.env)).all (fun x => !x.1) && (backToKw cpos (keywordEach [] X.env)).all (fun x => x.1.isSome)
      && decide ((e :: es).length + ([] : List Keyword).length + (if ([] : List Keyword).isEmpty then 0 else 1) < 30)) = true)
    (hline : (apos.endLine == cpos.line) = true) (hs : starEach (e :: es) X.env = (false, eval e X.env) :: starEach es X.env) (hplain : (backTo cpos (starEach es X.env)).any (·.1) = false) :
    PE X (.Call (.Attribute o name apos) (e :: es) [] cpos) (tBMD X name to t) := by
  refine ⟨fun pins s σ H Q I h => ?_⟩
  refine wpAny_Call_method_late hbase hfew hline rfl (thn (ho.run pins s σ H _ I h) fun v s1 ⟨x, H1, I1, r1, T, id, r, pa, slot, hty, hm, ty, q1⟩ => ?_)
  obtain ⟨h1, h2⟩ := tyP_is I1 r1 ty
  refine ⟨T, id, pa, slot, hty, h1, h2, ?_⟩
  have hA := ha.run cpos pins s1 σ H1 _ I1 q1
  rw [hs] at hA ⊢
  refine Calls.callWith_builtin (by show (false || (backTo cpos (starEach es X.env)).any (·.1)) = false; rw [hplain] <;> rfl) (Calls.evalArgs_plain ?_)
  exact thn hA fun us s2 ⟨vs, H2, I2, r2, q2⟩ => hm pins s2 σ H2 x vs v us Q I2 r1 r2 q2
theorem rd_split {es' : List E} (h : rdE X.K c (.mth .split1 a' es') σ H Q) : tBMD X "split" (rdE X.K c a') (rdEs X.K c es') σ H Q := by
  obtain ⟨m, A, aσ, R, S, h⟩ := h
  refine ⟨m, A, aσ, R, S, FG.imp (FG.bind h) fun v A1 m1 H1 t1 R1 h1 x rx => ?_⟩
  split at h1
  · rename_i hz
    cases rx with
    | str y =>
      refine ⟨"str", "str.split", _, PySem.F.plainAttrs_str, PySem.F.slot_str_split, PySem.F.type_str_split, mt_split, .inl rfl, m1, A1, aσ, R1, S.mono t1, FG.imp (FG.bind h1) fun vs A2 m2 H2 t2 R2 h2 ys ry => ?_⟩
      cases ry with
      | nil => exact False.elim h2
      | cons r1 rr =>
        cases rr with
        | cons _ _ => cases r1 <;> exact False.elim h2
        | nil =>
          cases r1 with
          | str z =>
            simp only [aMth] at h2
            split at h2
            · rename_i hq
              exact ⟨y, z, rfl, rfl, hq.1, hq.2, fun p np => Fin.lstNew R2 h2 (RVs.strs _) np⟩
            · exact False.elim h2
          | _ => exact False.elim h2
    | pt _ _ => cases hz
    | @ref n a hm =>
      exfalso
      unfold mthTy at hz
      simp only at hz
      split at hz <;> cases hz
    | _ => cases hz
  · exact False.elim h1
theorem rd_index {es' : List E} (h : rdE X.K c (.mth .index1 a' es') σ H Q) : tBMD X "index" (rdE X.K c a') (rdEs X.K c es') σ H Q := by
  obtain ⟨m, A, aσ, R, S, h⟩ := h
  refine ⟨m, A, aσ, R, S, FG.imp (FG.bind h) fun v A1 m1 H1 t1 R1 h1 x rx => ?_⟩
  split at h1
  · rename_i hz
    cases rx with
    | @pt xs a o he hd =>
      refine ⟨"tuple", "tuple.index", _, PySem.F.plainAttrs_tuple, PySem.F.slot_tuple_index, PySem.F.type_tuple_index, mr_idxT, .inr ⟨rfl, a, o, _, rfl, he, hd⟩, m1, A1, aσ, R1, S.mono t1, FG.imp (FG.bind h1) fun vs A2 m2 H2 t2 R2 h2 ys ry => ?_⟩
      cases ry with
      | nil => exact False.elim h2
      | cons r1 rr =>
        cases rr with
        | cons _ _ => cases r1 <;> exact False.elim h2
        | nil =>
          cases r1 with
          | str z =>
            simp only [aMth] at h2
            split at h2
            · rename_i hq
              exact ⟨a, xs, z, rfl, rfl, .inl (.inr ⟨o, (t2.tups a _ he).2 o _ rfl⟩), hq, Fin.here R2 h2 (.int _)⟩
            · exact False.elim h2
          | _ => exact False.elim h2
    | @ref n a hm =>
      have hl : ∃ ys zs, A1[n]? = some (.lst ys) ∧ H1 a = some (.lst zs) := by
        unfold mthTy at hz
        simp only at hz
        split at hz
        · rename_i ys q
          obtain ⟨zs, e, _⟩ := R1.of hm q
          exact ⟨ys, zs, q, e⟩
        · cases hz
        · cases hz
      obtain ⟨ys0, zs0, q0, e0⟩ := hl
      refine ⟨"list", "list.index", _, PySem.F.plainAttrs_list, PySem.F.slot_list_index, PySem.F.type_list_index, mr_idxL, .inl (.inl ⟨rfl, zs0, .of e0⟩), m1, A1, aσ, R1, S.mono t1, FG.imp (FG.bind h1) fun vs A2 m2 H2 t2 R2 h2 ys ry => ?_⟩
      have hm2 := t2.getM hm
      simp only [aMth] at h2
      split at h2
      · rename_i xs q
        obtain ⟨zs, e, r⟩ := R2.of hm2 q
        cases ry with
        | nil => exact False.elim h2
        | cons r1 rr =>
          cases rr with
          | cons _ _ => exact False.elim h2
          | nil =>
            simp only at h2
            split at h2
            · rename_i i hi
              split at h2
              · rename_i hl
                refine ⟨a, i, rfl, ?_, Fin.here R2 h2 (.int _)⟩
                cases r1 with
                | int k =>
                  simp only [idxA] at hi
                  cases q2 : intsOf xs with
                  | none => rw [q2] at hi; cases hi
                  | some ns =>
                    rw [q2] at hi
                    have hi : (if k ∈ ns then some (ns.idxOf k) else none) = some i := hi
                    split at hi
                    · rename_i hk
                      cases hi
                      have e2 := r.ofInts q2
                      subst e2
                      have := r.length
                      rw [List.length_map] at this
                      exact .inr ⟨ns, k, rfl, .of e, by omega, hk, rfl⟩
                    · cases hi
                | str k =>
                  simp only [idxA] at hi
                  cases q2 : strsOf xs with
                  | none => rw [q2] at hi; cases hi
                  | some ns =>
                    rw [q2] at hi
                    have hi : (if k ∈ ns then some (ns.idxOf k) else none) = some i := hi
                    split at hi
                    · rename_i hk
                      cases hi
                      have e2 := r.ofStrs q2
                      subst e2
                      have := r.length
                      rw [List.length_map] at this
                      exact .inl ⟨ns, k, rfl, .of e, by omega, hk, rfl⟩
                    · cases hi
                | _ => cases hi
              · exact False.elim h2
            · exact False.elim h2
      · cases ry with
        | nil => exact False.elim h2
        | cons _ rr => cases rr <;> exact False.elim h2
      · exact False.elim h2
    | str _ => cases hz
    | _ => cases hz
  · exact False.elim h1
end
end Ev


set_option linter.all false
set_option maxRecDepth 100000
set_option maxHeartbeats 4000000
namespace Ev
open PySem PySem.Spec PyProof.Rows L2
section
variable {c : Cfg} {G : GI} {N : List Str} {k : Nat} {X : Cx} {sc : Scope}
variable {a b d : Expr} {a' b' d' : E} {pos : Pos} {K : PySem.W.Frag} {σ : L2.St} {H : Hp} {Q : VK}

/-! ### what is walked -/
theorem Tr.lst {m0 m : List Addr} {H0 H : Hp} {D : Addr} {u : HO} (t : Tr m0 H0 m H) (h : H0 D = some u) (n : D ∉ m0) : H D = some u ∧ D ∉ m :=
  ⟨t.keep D u h n, fun hb => by have := t.new D hb n; rw [h] at this; cases this⟩
theorem jok_tup {m0 : List Addr} {H0 : Hp} {xs : List AV} {ys : List V} {a : Addr} (h : SqT K H0 a ys) (r : RVs K H0 m0 xs ys) : JOk K (.val xs) m0 H0 (Itt K a) := by
  intro i m A H t R _
  have hs : SqT K H a ys := t.sqT h
  have hr := r.mono t
  refine ⟨fun av e => ?_, fun hl => ⟨ys, hs, by rw [← hr.length]; exact hl⟩⟩
  obtain ⟨y, e2, r2⟩ := hr.get e
  refine ⟨⟨ys, y, hs, e2⟩, fun x H' ⟨eH, f⟩ => ?_⟩
  subst eH
  have := f ys hs
  rw [e2] at this
  cases this
  exact ⟨Tr.refl, R, r2⟩
theorem jok_new {m0 : List Addr} {H0 : Hp} {xs : List AV} {ys : List V} {D : Addr} (h : H0 D = some (.lst ys)) (n : D ∉ m0) (r : RVs K H0 m0 xs ys) : JOk K (.val xs) m0 H0 (Itl K D) := by
  intro i m A H t R _
  have hs : SqL K H D ys := .of (t.lst h n).1
  have hr := r.mono t
  refine ⟨fun av e => ?_, fun hl => ⟨ys, hs, by rw [← hr.length]; exact hl⟩⟩
  obtain ⟨y, e2, r2⟩ := hr.get e
  refine ⟨⟨ys, y, hs, e2⟩, fun x H' ⟨eH, f⟩ => ?_⟩
  subst eH
  have := f ys hs
  rw [e2] at this
  cases this
  exact ⟨Tr.refl, R, r2⟩
theorem jok_fl {m0 : List Addr} {H0 : Hp} {xs : List AV} {ys : List V} {D : Addr} (h : SqF K H0 D ys) (r : RVs K H0 m0 xs ys) : JOk K (.val xs) m0 H0 (Itl K D) := by
  intro i m A H t R _
  have hs : SqL K H D ys := (t.sqF h).l
  have hr := r.mono t
  refine ⟨fun av e => ?_, fun hl => ⟨ys, hs, by rw [← hr.length]; exact hl⟩⟩
  obtain ⟨y, e2, r2⟩ := hr.get e
  refine ⟨⟨ys, y, hs, e2⟩, fun x H' ⟨eH, f⟩ => ?_⟩
  subst eH
  have := f ys hs
  rw [e2] at this
  cases this
  exact ⟨Tr.refl, R, r2⟩
theorem jok_obj {m0 : List Addr} {H0 : Hp} {xs : List AV} {n : Nat} {a : Addr} (hm : m0[n]? = some a) : JOk K (.obj n xs) m0 H0 (Itl K a) := by
  intro i m A H t R hc
  have hm' := t.getM hm
  have hc : A[n]? = some (.lst xs) := by
    unfold Itm.chk at hc
    exact @of_decide_eq_true _ (Classical.propDecidable _) hc
  obtain ⟨ys, hs, hr⟩ : ∃ ys, SqL K H a ys ∧ RVs K H m xs ys := by
    obtain ⟨ys, e, r⟩ := R.of hm' hc; exact ⟨ys, .of e, r⟩
  refine ⟨fun av e => ?_, fun hl => ⟨ys, hs, by rw [← hr.length]; exact hl⟩⟩
  obtain ⟨y, e2, r2⟩ := hr.get e
  refine ⟨⟨ys, y, hs, e2⟩, fun x H' ⟨eH, f⟩ => ?_⟩
  subst eH
  have := f ys hs
  rw [e2] at this
  cases this
  exact ⟨Tr.refl, R, r2⟩
theorem jok_range {m0 : List Addr} {H0 : Hp} (lo : Int) (n : Nat) : JOk K (.val ((List.range n).map fun (k : Nat) => AV.int (lo + k))) m0 H0 (Itr lo n) := by
  intro i m A H t R hc
  refine ⟨fun av e => ?_, fun hl => show n ≤ i by simpa [Itm.items] using hl⟩
  simp only [Itm.items, List.getElem?_map] at e
  by_cases hi : i < n
  · rw [List.getElem?_range hi] at e
    cases e
    refine ⟨hi, fun x H' ⟨eH, f⟩ => ?_⟩
    subst eH f
    exact ⟨Tr.refl, R, .int _⟩
  · rw [List.getElem?_eq_none (by simp; omega)] at e
    cases e
theorem unK_rv {m : List Addr} (k : Key) : RV K H m (unK k) (kV k) := by cases k <;> constructor
theorem unK_rvs {m : List Addr} : ∀ ks : List Key, RVs K H m (ks.map unK) (ks.map kV)
  | [] => .nil
  | k :: ks => .cons (unK_rv k) (unK_rvs ks)
theorem jok_keys {m0 : List Addr} {H0 : Hp} {n : Nat} {own : Bool} {kvs : List (List Key × AV)} {a : Addr} {o : Obj} {ws : List (List Key × V)} (he : H0 a = some (.frz o (.dT ws))) (r : Ents K H0 m0 kvs ws) : JOk K (.keys n own kvs) m0 H0 (Itkt a o ws) := by
  intro i m A H t R _
  have h1 : H a = some (.frz o (.dT ws)) := (t.tups a _ he).2 o _ rfl
  have hl : kvs.length = ws.length := r.length
  refine ⟨fun av e => ?_, fun hi => ⟨h1, by rw [← hl]; simpa [Itm.items] using hi⟩⟩
  simp only [Itm.items, List.getElem?_map] at e
  cases q : kvs[i]? with
  | none => rw [q] at e; cases e
  | some p =>
    rw [q] at e
    cases e
    obtain ⟨w, e2, e3, _⟩ := r.at q
    refine ⟨⟨h1, (List.getElem?_eq_some_iff.mp e2).1⟩, fun x H' ⟨eH, k, v, b, f1, f2, f3⟩ => ?_⟩
    subst eH f2
    rw [e2] at f1
    cases f1
    exact ⟨Tr.refl, R, .tup f3 (by rw [e3]; exact unK_rvs _)⟩
theorem s_iv {tg : Expr} (ha : PE X a (rdE X.K c a')) : PI X tg a (rdI X.K c (.v a')) :=
  PI.mono (pi_seqD ha) fun σ H R' ⟨m, A, aσ, R, S, h⟩ => ⟨m, A, aσ, R, S, FG.imp (FG.bind h) fun v A1 m1 H1 t1 R1 h1 x rx => by
    cases rx with
    | @tup xs a ys ht hs => exact ⟨a, rfl, .inr (.inl ⟨⟨ys, .of ht⟩, h1 m1 H1 Tr.refl R1 _ (jok_tup (.of ht) hs) trivial⟩)⟩
    | @fl xs a ys ht hs => exact ⟨a, rfl, .inl ⟨⟨ys, ht.l⟩, h1 m1 H1 Tr.refl R1 _ (jok_fl ht hs) trivial⟩⟩
    | @pt ys a o he hd => exact ⟨a, rfl, .inr (.inl ⟨⟨_, .inl (.inr ⟨o, he⟩)⟩, h1 m1 H1 Tr.refl R1 _ (jok_tup (.inl (.inr ⟨o, he⟩)) (RVs.strs ys)) trivial⟩)⟩
    | @ref n a hm =>
      simp only at h1
      cases q : A1[n]? with
      | none => rw [q] at h1; exact False.elim h1
      | some o =>
        rw [q] at h1
        have ro := R1.of hm q
        cases o with
        | lst xs => obtain ⟨ys, e, r⟩ := ro; exact ⟨a, rfl, .inl ⟨⟨ys, .of e⟩, h1 m1 H1 Tr.refl R1 _ (jok_obj hm) trivial⟩⟩
        | dT fz kvs =>
          obtain ⟨ws, e, r⟩ := ro
          cases fz with
          | false =>
            have e : H1 a = some (.dT ws) := by
              rcases e with ⟨_, e⟩ | ⟨z, _⟩
              · exact e
              · cases z
            refine ⟨a, rfl, .inr (.inr (.inl ⟨ws, e, fun o => ?_⟩))⟩
            obtain ⟨t2, R2⟩ := R1.put hm (u := .frz o (.dT ws)) (o := .dT true kvs) (fun H' _ e st => ⟨ws, .inr ⟨rfl, o, e⟩, Paired.mapP r fun p q z => ⟨z.1, z.2.mono0 st⟩⟩) (fun xs z => by rw [e] at z; cases z) (fun q v z => by rw [e] at z; cases z)
            have r2 : Ents X.K (upd H1 a (.frz o (.dT ws))) m1 kvs ws := Paired.mapP r fun p q z => ⟨z.1, z.2.mono t2⟩
            refine h1 m1 _ t2 R2 _ (jok_keys upd_same r2) ⟨a, o, ws, hm, fun q u z => ?_, upd_same, r2⟩
            have := (t1.tups a _ z).2 q u rfl
            rw [e] at this; cases this
          | true =>
            obtain ⟨o, e⟩ : ∃ o, H1 a = some (.frz o (.dT ws)) := by
              rcases e with ⟨z, _⟩ | ⟨_, e⟩
              · cases z
              · exact e
            exact ⟨a, rfl, .inr (.inr (.inr ⟨o, ws, e, h1 m1 H1 Tr.refl R1 _ (jok_keys e r) trivial⟩))⟩
        | _ => exact False.elim h1
    | _ => exact False.elim h1⟩
theorem s_il {tg : Expr} {l : L} (ha : PE X a (rdL X.K c l)) : PI X tg a (rdI X.K c (.l l)) :=
  PI.mono (pi_seqD ha) fun σ H R' ⟨m, A, aσ, R, S, h⟩ => ⟨m, A, aσ, R, S, FG.imp (FG.bind h) fun v A1 m1 H1 t1 R1 h1 D ys hD nD nH ry =>
    ⟨D, rfl, .inl ⟨⟨ys, .of hD⟩, h1 m1 H1 Tr.refl R1 _ (jok_new hD nD ry) trivial⟩⟩⟩
theorem s_ir1 {tg : Expr} {p : Pos} (hg : Gl X "range") (hm : X.mg "range" = none) (ns : NoStar a) (ha : PE X a (rdE X.K c a')) : PI X tg (.Call (.Name "range" p) [a] [] pos) (rdI X.K c (.range1 a')) :=
  PI.mono (pi_range1 hg hm (pa_cons ha pa_nil (starEach_cons ns)) (starEach_cons ns)) fun σ H R' ⟨m, A, aσ, R, S, h⟩ => ⟨m, A, aσ, R, S, FG.imp (FG.bind h) fun v A1 m1 H1 t1 R1 h1 x rx => by
    cases rx with
    | int j =>
      simp only at h1
      split at h1
      · rename_i hz
        have q := jok_range (K := X.K) (m0 := m1) (H0 := H1) 0 j.toNat
        simp only [Int.zero_add] at q
        exact ⟨j, rfl, hz.1, hz.2, h1 m1 H1 Tr.refl R1 _ q trivial⟩
      · exact False.elim h1
    | _ => exact False.elim h1⟩
theorem s_ir2 {tg : Expr} {p : Pos} (hg : Gl X "range") (hm : X.mg "range" = none) (ns : NoStar a) (nb : NoStar b) (ha : PE X a (rdE X.K c a')) (hb : PE X b (rdE X.K c b')) : PI X tg (.Call (.Name "range" p) [a, b] [] pos) (rdI X.K c (.range2 a' b')) :=
  PI.mono (pi_range2 hg hm (pa_cons ha (pa_cons hb pa_nil (starEach_cons nb)) (starEach_cons ns)) (by rw [starEach_cons ns, starEach_cons nb]; rfl) (by rw [starEach_cons nb]; rfl)) fun σ H R' ⟨m, A, aσ, R, S, h⟩ =>
    ⟨m, A, aσ, R, S, FG.imp (FG.bind h) fun v A1 m1 H1 t1 R1 h1 x rx => ⟨m1, A1, aσ, R1, S.mono t1, FG.imp (FG.bind h1) fun w A2 m2 H2 t2 R2 h2 y ry => by
      cases rx with
      | int i =>
        cases ry with
        | int j =>
          simp only at h2
          split at h2
          · rename_i hz
            exact ⟨i, j, rfl, hz, h2 m2 H2 Tr.refl R2 _ (jok_range i _) trivial⟩
          · exact False.elim h2
        | _ => exact False.elim h2
      | _ => exact False.elim h2⟩⟩

/-- one side of a zip: it stands as a list, as a tuple -/
def SideL (K : PySem.W.Frag) (t : Itm) (m0 : List Addr) (H0 : Hp) (a : Addr) : Prop := ∀ m A H, Tr m0 H0 m H → RelH K m A H → t.chk A = true → ∃ ys, SqL K H a ys ∧ RVs K H m t.items ys
def SideT (K : PySem.W.Frag) (t : Itm) (m0 : List Addr) (H0 : Hp) (a : Addr) : Prop := ∀ m A H, Tr m0 H0 m H → RelH K m A H → t.chk A = true → ∃ ys, SqT K H a ys ∧ RVs K H m t.items ys
theorem side_of {m : List Addr} {A : AH} {H : Hp} (R : RelH K m A H) {x : AV} {y : V} (r : RV K H m x y) {t : Itm} {k : Bool} (h : side A x = some (t, k)) :
    t.chk A = true ∧ ∃ a, y = .ref a ∧ (if k = true then SideT K t m H a else SideL K t m H a) := by
  cases r with
  | @tup xs a ys ht hs => cases h; exact ⟨rfl, a, rfl, by rw [if_pos rfl]; exact fun m' A' H' tr R' _ => ⟨ys, tr.sqT (.of ht), hs.mono tr⟩⟩
  | @fl xs a ys ht hs => cases h; exact ⟨rfl, a, rfl, by rw [if_neg Bool.false_ne_true]; exact fun m' A' H' tr R' _ => ⟨ys, (tr.sqF ht).l, hs.mono tr⟩⟩
  | @ref n a hm =>
    simp only [side] at h
    split at h
    · rename_i xs e
      cases h
      refine ⟨?_, a, rfl, ?_⟩
      · unfold Itm.chk; exact @decide_eq_true _ (Classical.propDecidable _) e
      · rw [if_neg Bool.false_ne_true]
        intro m' A' H' tr R' hc
        have hc : A'[n]? = some (.lst xs) := by
          unfold Itm.chk at hc
          exact @of_decide_eq_true _ (Classical.propDecidable _) hc
        obtain ⟨ys, e, r⟩ := R'.of (tr.getM hm) hc
        exact ⟨ys, .of e, r⟩
    · cases h
  | _ => cases h
theorem zip_at {xs ys : List AV} {i : Nat} {av : AV} (h : (List.zipWith (fun x y => AV.tup [x, y]) xs ys)[i]? = some av) : ∃ x y, xs[i]? = some x ∧ ys[i]? = some y ∧ av = .tup [x, y] := by
  rw [List.getElem?_zipWith] at h
  split at h
  · rename_i x y h1 h2
    exact ⟨x, y, h1, h2, (Option.some.inj h).symm⟩
  · cases h
theorem jok_zipL {m0 : List Addr} {H0 : Hp} {l r : Itm} {a b : Addr} (hl : SideL K l m0 H0 a) (hr : SideL K r m0 H0 b) : JOk K (.two l r) m0 H0 (Itz K a b) := by
  intro i m A H t R hc
  simp only [Itm.chk, Bool.and_eq_true] at hc
  obtain ⟨xs, q1, r1⟩ := hl m A H t R hc.1
  obtain ⟨ys, q2, r2⟩ := hr m A H t R hc.2
  refine ⟨fun av e => ?_, fun hi => ⟨xs, ys, q1, q2, ?_⟩⟩
  · obtain ⟨x, y, e1, e2, rfl⟩ := zip_at e
    obtain ⟨u, hu, ru⟩ := r1.get e1
    obtain ⟨w, hw, rw'⟩ := r2.get e2
    refine ⟨⟨xs, ys, u, w, q1, q2, hu, hw⟩, fun v H' ⟨T, u', w', ev, nT, eH, f1, f2⟩ => ?_⟩
    subst ev eH
    have := f1 xs q1
    rw [hu] at this
    cases this
    have := f2 ys q2
    rw [hw] at this
    cases this
    have t2 : Tr m H m (upd H T (.tup [u, w])) := Tr.more R nT
    exact ⟨t2, R.more nT, .tup upd_same (.cons (ru.mono t2) (.cons (rw'.mono t2) .nil))⟩
  · simp only [Itm.items, List.length_zipWith] at hi
    rw [← r1.length, ← r2.length]
    omega
theorem jok_zipT {m0 : List Addr} {H0 : Hp} {l r : Itm} {a b : Addr} (hl : SideT K l m0 H0 a) (hr : SideT K r m0 H0 b) : JOk K (.two l r) m0 H0 (RZ.ItzT K a b) := by
  intro i m A H t R hc
  simp only [Itm.chk, Bool.and_eq_true] at hc
  obtain ⟨xs, q1, r1⟩ := hl m A H t R hc.1
  obtain ⟨ys, q2, r2⟩ := hr m A H t R hc.2
  refine ⟨fun av e => ?_, fun hi => ⟨xs, ys, q1, q2, ?_⟩⟩
  · obtain ⟨x, y, e1, e2, rfl⟩ := zip_at e
    obtain ⟨u, hu, ru⟩ := r1.get e1
    obtain ⟨w, hw, rw'⟩ := r2.get e2
    refine ⟨⟨xs, ys, u, w, q1, q2, hu, hw⟩, fun v H' ⟨T, u', w', ev, nT, eH, f1, f2⟩ => ?_⟩
    subst ev eH
    have := f1 xs q1
    rw [hu] at this
    cases this
    have := f2 ys q2
    rw [hw] at this
    cases this
    have t2 : Tr m H m (upd H T (.tup [u, w])) := Tr.more R nT
    exact ⟨t2, R.more nT, .tup upd_same (.cons (ru.mono t2) (.cons (rw'.mono t2) .nil))⟩
  · simp only [Itm.items, List.length_zipWith] at hi
    rw [← r1.length, ← r2.length]
    omega
theorem s_izip {tpos : Pos} {elts : List Expr} {kk : Nat} {p : Pos} (hg : Gl X "zip") (hm : X.mg "zip" = none) (ns : NoStar a) (nb : NoStar b) (ha : PE X a (rdE X.K c a')) (hb : PE X b (rdE X.K c b')) : PI X (.Tuple elts kk tpos) (.Call (.Name "zip" p) [a, b] [] pos) (rdI X.K c (.zip a' b')) :=
  PI.mono (RZ.pi_zipA hg hm (pa_cons ha (pa_cons hb pa_nil (starEach_cons nb)) (starEach_cons ns)) (starEach_cons ns) (by rw [starEach_cons nb]; rfl)) fun σ H R' ⟨m, A, aσ, R, S, h⟩ =>
    ⟨m, A, aσ, R, S, FG.imp (FG.bind h) fun v A1 m1 H1 t1 R1 h1 x rx => ⟨m1, A1, aσ, R1, S.mono t1, FG.imp (FG.bind h1) fun w A2 m2 H2 t2 R2 h2 y ry => by
      split at h2
      · rename_i l k r k' e1 e2
        split at h2
        · rename_i ek
          subst ek
          obtain ⟨c1, a1, rfl, s1⟩ := side_of R2 (rx.mono t2) e1
          obtain ⟨c2, a2, rfl, s2⟩ := side_of R2 ry e2
          cases k with
          | true =>
            rw [if_pos rfl] at s1 s2
            obtain ⟨xs, q1, _⟩ := s1 m2 A2 H2 Tr.refl R2 c1
            obtain ⟨ys, q2, _⟩ := s2 m2 A2 H2 Tr.refl R2 c2
            exact ⟨a1, a2, xs, ys, rfl, .inr ⟨q1, q2, h2 m2 H2 Tr.refl R2 _ (jok_zipT s1 s2) trivial⟩⟩
          | false =>
            rw [if_neg Bool.false_ne_true] at s1 s2
            obtain ⟨xs, q1, _⟩ := s1 m2 A2 H2 Tr.refl R2 c1
            obtain ⟨ys, q2, _⟩ := s2 m2 A2 H2 Tr.refl R2 c2
            exact ⟨a1, a2, xs, ys, rfl, .inl ⟨q1, q2, h2 m2 H2 Tr.refl R2 _ (jok_zipL s1 s2) trivial⟩⟩
        · exact False.elim h2
      · exact False.elim h2⟩⟩

/-! ### targets -/
theorem SameOut.refl {l : List Nat} {σ : L2.St} : SameOut l σ σ := ⟨rfl, fun _ _ => rfl⟩
theorem SameOut.trans {l l' : List Nat} {σ σ' σ'' : L2.St} (h : SameOut l σ σ') (h' : SameOut l' σ' σ'') : SameOut (l ++ l') σ σ'' :=
  ⟨h'.1.trans h.1, fun i hi => (h'.2 i fun z => hi (List.mem_append_right _ z)).trans (h.2 i fun z => hi (List.mem_append_left _ z))⟩
theorem s_tn {x : Str} {i : Nat} (hN : X.N.Nodup) (hi : X.N[i]? = some x) (hx : L2.Loc X.env.scope x) (hf : X.fn x = true ∨ X.env.scope.names.lookup x = some .local) : PG X (.Name x pos) (rdTg X.K c (.name i)) :=
  PG.mono (pg_name hN hi hx hf) fun v σ H Q ⟨m, A, aσ, av, R, S, rv, h⟩ => h m H Tr.refl R _ (S.set i rv) ⟨by simp, fun j hj => by
    rw [List.getElem?_set_ne (fun z => hj (by simp [tslots, z]))]⟩
theorem s_tnil : PGs X [] (rdTs X.K c []) := PGs.mono pgs_nil fun vs σ H Q ⟨m, A, aσ, avs, R, S, rv, h⟩ => by
  cases rv with
  | nil => exact ⟨rfl, h m H Tr.refl R _ S SameOut.refl⟩
  | cons _ _ => exact False.elim h
theorem s_tcons {es : List Expr} {t : T} {ts : List T} (ns : NoStar a) (h1 : PG X a (rdTg X.K c t)) (h2 : PGs X es (rdTs X.K c ts)) : PGs X (a :: es) (rdTs X.K c (t :: ts)) :=
  PGs.mono (pgs_cons h1 h2 (by rw [assignEach_cons ns]; rfl)) fun vs σ H Q ⟨m, A, aσ, avs, R, S, rv, h⟩ => by
    cases rv with
    | nil => exact False.elim h
    | @cons x y xs ys r rs =>
      exact ⟨y, ys, rfl, m, A, aσ, x, R, S, r, FG.imp (FG.bind h) fun aσ1 A1 m1 H1 t1 R1 h1 σ1 S1 so1 => ⟨m1, A1, aσ1, xs, R1, S1, rs.mono t1, FG.imp h1 fun aσ2 A2 m2 H2 t2 R2 h2 σ2 S2 so2 => h2 σ2 S2 (so1.trans so2)⟩⟩
theorem assignEach_len {env : Env} : ∀ {es : List Expr}, (∀ e ∈ es, NoStar e) → (assignEach es env).length = es.length ∧ (assignEach es env).findIdx? (·.1) = none
  | [], _ => ⟨rfl, rfl⟩
  | e :: es, h => by
    rw [assignEach_cons (h e (by simp))]
    obtain ⟨h1, h2⟩ := assignEach_len (env := env) (es := es) fun x hx => h x (List.mem_cons_of_mem _ hx)
    exact ⟨by simp [h1], by rw [List.findIdx?_cons]; simp [h2]⟩
theorem s_ttup {es : List Expr} {ts : List T} {kk : Nat} (hc : X.calm = true) (ns : ∀ e ∈ es, NoStar e) (hl : ts.length = es.length) (h : PGs X es (rdTs X.K c ts)) : PG X (.Tuple es kk pos) (rdTg X.K c (.tup ts)) :=
  PG.mono (pg_tup hc h (assignEach_len ns).1 (assignEach_len ns).2) fun v σ H Q ⟨m, A, aσ, av, R, S, rv, h⟩ => by
    cases rv with
    | @tup xs a ys ht hs =>
      simp only [evTg] at h
      split at h
      · rename_i hz
        exact ⟨a, ys, rfl, .of ht, by rw [← hs.length, hz, hl], m, A, aσ, xs, R, S, hs, h⟩
      · exact False.elim h
    | _ => exact False.elim h
theorem s_tsub (hu : X.A.units + 65 < cLine) (nsl : ∀ l h p, b ≠ .Slice l h none p) (ha : PE X a (rdE X.K c a')) (hb : PE X b (rdE X.K c b')) : PG X (.Subscript a b pos) (rdTg X.K c (.sub a' b')) :=
  PG.mono (pg_sub ha hb (set_A hu) (by intro _; cases b <;> first | rfl | (rename_i l h s p; cases s <;> first | rfl | exact absurd rfl (nsl l h p)))) fun v σ H Q ⟨m, A, aσ, av, R, S, rv, h⟩ =>
    ⟨m, A, aσ, R, S, FG.imp (FG.bind h) fun o A1 m1 H1 t1 R1 h1 x rx => ⟨m1, A1, aσ, R1, S.mono t1, FG.imp (FG.bind h1) fun w A2 m2 H2 t2 R2 h2 y ry => by
      cases e : aSet o w av A2 with
      | none => rw [e] at h2; exact False.elim h2
      | some A3 =>
        rw [e] at h2
        exact ⟨m2, A2, o, w, av, A3, R2, rx.mono t2, ry, (rv.mono t1).mono t2, e, fun H' t R' => h2 m2 H' t R' σ (((S.mono t1).mono t2).mono t) SameOut.refl⟩⟩⟩

/-! ### list comprehensions -/
theorem wipe_get {σ : L2.St} {i : Nat} : ∀ {vs : List Nat}, (L2.wipe σ vs)[i]? = if i ∈ vs then (if i < σ.length then some none else none) else σ[i]?
  | [] => by simp [L2.wipe]
  | v :: vs => by
    show ((L2.wipe σ vs).set v none)[i]? = _
    by_cases h : i = v
    · subst h
      rw [List.getElem?_set]
      simp [L2.wipe_length]
    · rw [List.getElem?_set_ne (Ne.symm h), wipe_get]
      have : (i ∈ v :: vs) ↔ i ∈ vs := by simp [h]
      simp only [this]
theorem wipe_same {σ σ' : L2.St} {l vs : List Nat} (h : SameOut l (L2.wipe σ vs) σ') (hl : ∀ i ∈ l, i ∈ vs) : L2.wipe σ' vs = L2.wipe σ vs := by
  have hlen : σ'.length = σ.length := by rw [h.1, L2.wipe_length]
  refine List.ext_getElem? fun i => ?_
  rw [wipe_get, wipe_get, hlen]
  by_cases hi : i ∈ vs
  · simp only [hi, if_true]
  · simp only [hi, if_false]
    rw [h.2 i fun z => hi (hl i z), wipe_get]
    simp only [hi, if_false]
/-- .. without a shift -/
theorem FG.bind0 {α β : Type} {m : List Addr} {r : Res α} {f : α → AH → Res β} {P : β → AH → List Addr → Hp → Prop} (h : FG K m H (r.bind f) P) : FG K m H r fun a A1 _ _ => FG K m H (f a A1) P := by
  cases r with
  | ok a A => exact fun m' H' t' R' => h
  | bad => exact h
theorem Tr.apart {m m' : List Addr} {H' : Hp} {D : Addr} {u : HO} (t : Tr m H m' H') (n : H D = none) : Tr m H m' (upd H' D u) where
  pre := t.pre
  new := t.new
  keep := fun b o e nb => by rw [upd_ne (ne_of_none e n)]; exact t.keep b o e nb
  tups := fun b o e => ⟨fun xs z => by rw [upd_ne (ne_of_none e n)]; exact (t.tups b o e).1 xs z, fun q v z => by rw [upd_ne (ne_of_none e n)]; exact (t.tups b o e).2 q v z⟩
theorem RelH.apart {m : List Addr} {A : AH} {D : Addr} {xs ys : List V} (R : RelH K m A H) (n : D ∉ m) (h : H D = some (.lst xs)) : RelH K m A (upd H D (.lst ys)) ∧ Stay K m H m (upd H D (.lst ys)) := by
  have st : Stay K m H m (upd H D (.lst ys)) := ⟨fun _ _ e => e, fun a zs e => by
    rw [upd_ne (fun z => by rw [z, h] at e; cases e)]; exact e, fun a zs e => by
    rcases e with ⟨o, e⟩ | e
    · exact .inl ⟨o, by rw [upd_ne (fun z => by rw [z, h] at e; cases e)]; exact e⟩
    · exact .inr e, fun a o zs e => by rw [upd_ne (fun z => by rw [z, h] at e; cases e)]; exact e⟩
  exact ⟨⟨R.len, R.nd, fun i b o hb ho => (R.at_ i b o hb ho).mono0 st (upd_ne fun z => n (z ▸ List.mem_of_getElem? hb))⟩, st⟩
theorem rd_comp {own : List Nat} {it : I} {tg : T} {q' : E} (hl : ∀ i ∈ tslots tg, i ∈ own) (h : rdL K c (.comp own it tg q' a') σ H Q) :
    tLc (rdI K c it) (rdTg K c tg) (rdT K c q') (rdE K c a') own σ H Q := by
  obtain ⟨m, A, aσ, R, S, h⟩ := h
  refine ⟨m, A, aσ, R, S, FG.imp (FG.bind0 h) fun t A1 m1 H1 t1 R1 h1 J hJ _ D nD => ?_⟩
  have nH : H D = none := by
    cases q : H D with
    | none => rfl
    | some o =>
      exfalso
      by_cases hm : D ∈ m
      · obtain ⟨u, e, _⟩ := R1.there (List.IsPrefix.subset t1.pre hm)
        rw [nD] at e; cases e
      · have := t1.keep D o q hm
        rw [nD] at this; cases this
  have S0 : RSl K H m (wipeS aσ own) (L2.wipe σ own) := RSl.wipe own S
  refine ⟨fun i mm Hc => i ≤ t.items.length ∧ mm = t.items.length - i ∧ ∃ m' A' acc ys, Tr m H m' Hc ∧ Tr m1 H1 m' Hc ∧ RelH K m' A' Hc ∧ Hc D = some (.lst ys) ∧ D ∉ m' ∧ RVs K Hc m' acc ys ∧
      FG K m H (compGo t.chk (fun x A => evTg c tg x (wipeS aσ own) A) (fun σ A => (evE c q' σ A).bind tru) (fun σ A => evE c a' σ A) (t.items.drop i) acc A') (fun xs _ m' H' => ∀ D ys, H' D = some (.lst ys) → D ∉ m' → H D = none → RVs K H' m' xs ys → Q (.ref D) H'),
    ⟨t.items.length, Nat.zero_le _, rfl, m1, A1, [], [], t1.apart nH, Tr.more R1 nD, R1.more nD, upd_same, R1.fresh nD, .nil, by rw [List.drop_zero]; exact h1⟩, ?_⟩
  rintro i mm Hc ⟨hi, rfl, m', A', acc, ys, tr, tr1, R', hD, nDm, racc, g⟩
  by_cases hlt : i < t.items.length
  · rw [List.drop_eq_getElem_cons hlt] at g
    simp only [compGo] at g
    split at g
    · rename_i hc
      obtain ⟨hgo, hy⟩ := (hJ i m' A' Hc tr1 R' hc).1 _ (List.getElem?_eq_getElem hlt)
      refine .inr ⟨hgo, fun H' => ∃ mm', mm' < t.items.length - i ∧ (i + 1 ≤ t.items.length ∧ mm' = t.items.length - (i + 1) ∧ _), fun H' q => q, fun x H2 yl => ?_⟩
      obtain ⟨ty, R2, rx⟩ := hy x H2 yl
      have trA := tr.trans ty
      obtain ⟨hD2, nD2⟩ := ty.lst hD nDm
      refine ⟨m', A', wipeS aσ own, _, R2, S0.mono trA, rx, FG.imp (FG.shift (FG.bind0 g) trA) fun aσ3 A3 m3 H3 t3 R3 g3 σ3 S3 so => ?_⟩
      have trB := trA.trans t3
      obtain ⟨hD3, nD3⟩ := t3.lst hD2 nD2
      refine ⟨wipe_same so hl, m3, A3, aσ3, R3, S3, FG.imp (FG.shift (FG.bind0 g3) trB) fun kk A4 m4 H4 t4 R4 g4 => ?_⟩
      have trC := trB.trans t4
      obtain ⟨hD4, nD4⟩ := t4.lst hD3 nD3
      cases kk with
      | true =>
        dsimp only at g4 ⊢
        rw [if_pos rfl] at g4 ⊢
        refine ⟨m4, A4, aσ3, R4, S3.mono t4, FG.imp (FG.shift (FG.bind0 g4) trC) fun v A5 m5 H5 t5 R5 g5 y ry => ?_⟩
        obtain ⟨hD5, nD5⟩ := t5.lst hD4 nD4
        split at g5
        · rename_i hz
          have racc5 := (((racc.mono ty).mono t3).mono t4).mono t5
          rw [racc5.length] at hz
          refine ⟨ys, hD5, hz, t.items.length - (i + 1), by omega, hlt, rfl, m5, A5, acc ++ [v], ys ++ [y], (trC.trans t5).apart nH, ((((tr1.trans ty).trans t3).trans t4).trans t5).apart nD, ?_⟩
          obtain ⟨R6, st⟩ := R5.apart (ys := ys ++ [y]) nD5 hD5
          exact ⟨R6, upd_same, nD5, RVs.mono0 st (racc5.append (.one ry)), g5⟩
        · exact False.elim g5
      | false =>
        dsimp only at g4 ⊢
        rw [if_neg Bool.false_ne_true] at g4 ⊢
        exact ⟨t.items.length - (i + 1), by omega, hlt, rfl, m4, A4, acc, ys, trC, ((tr1.trans ty).trans t3).trans t4, R4, hD4, nD4, ((racc.mono ty).mono t3).mono t4, g4⟩
    · exact False.elim g
  · have e : i = t.items.length := by omega
    subst e
    rw [List.drop_length] at g
    simp only [compGo] at g
    split at g
    · rename_i hc
      exact .inl ⟨(hJ _ m' A' Hc tr1 R' hc).2 (Nat.le_refl _), g m' Hc tr R' D ys hD nDm nH racc⟩
    · exact False.elim g

/-! ### displays of dicts -/
def pairUp : List V → List (V × V)
  | k :: v :: r => (k, v) :: pairUp r | _ => []
def RdP (K : PySem.W.Frag) (c : Cfg) (es : List E) (trs : List (TE × TE)) : Prop := ∀ m A aσ σ H (Q : List (V × V) → Hp → Prop), RelH K m A H → RSl K H m aσ σ →
  FG K m H (evEs c es aσ A) (fun xs _ m' H' => ∀ ys, RVs K H' m' xs ys → Q (pairUp ys) H') → tPairs trs σ H Q
theorem rdP_nil : RdP K c [] [] := fun m A aσ σ H Q R S h => h m H Tr.refl R [] .nil
theorem rdP_cons {a' b' : E} {es : List E} {trs : List (TE × TE)} (h : RdP K c es trs) : RdP K c (a' :: b' :: es) ((rdE K c a', rdE K c b') :: trs) := by
  intro m A aσ σ H Q R S g
  simp only [evEs] at g
  refine ⟨m, A, aσ, R, S, FG.imp (FG.bind g) fun x A1 m1 H1 t1 R1 g1 vx rx => ⟨m1, A1, aσ, R1, S.mono t1, FG.imp (FG.bind (FG.bind g1)) fun y A2 m2 H2 t2 R2 g2 vy ry => ?_⟩⟩
  refine h m2 A2 aσ σ H2 _ R2 ((S.mono t1).mono t2) (FG.imp (FG.bind g2) fun zs A3 m3 H3 t3 R3 g3 ys rs => ?_)
  exact g3 m3 H3 Tr.refl R3 m3 H3 Tr.refl R3 (vx :: vy :: ys) (.cons ((rx.mono t2).mono t3) (.cons (ry.mono t3) rs))
theorem pairs_of {m : List Addr} : ∀ {xs : List AV} {ys : List V} {kvs : List (List Key × AV)}, RVs K H m xs ys → pairsK xs = some kvs →
    ∃ cs : List (List Key × Addr × V), pairUp ys = cs.map (fun kv => (.ref kv.2.1, kv.2.2)) ∧ (∀ kv ∈ cs, H kv.2.1 = some (.tup (kv.1.map kV))) ∧ cs.length = kvs.length ∧ Paired (fun (p : List Key × AV) (q : List Key × Addr × V) => p.1 = q.1 ∧ RV K H m p.2 q.2.2) kvs cs
  | _, _, kvs, .nil, e => by simp [pairsK] at e; subst e; exact ⟨[], rfl, fun _ h => (by cases h), rfl, .nil⟩
  | _, _, kvs, .cons _ .nil, e => by simp [pairsK] at e
  | _, _, kvs, .cons h1 (.cons h2 hs), e => by
    simp only [pairsK] at e
    split at e
    · rename_i k kvs' hk hr
      cases e
      obtain ⟨cs, e1, e2, e3, e4⟩ := pairs_of hs hr
      obtain ⟨b, eb, hb⟩ := h1.key hk
      refine ⟨(k, b, _) :: cs, by rw [eb]; simp only [pairUp, List.map_cons, e1], fun kv hkv => ?_, by simp [e3], .cons ⟨rfl, h2⟩ e4⟩
      rcases List.mem_cons.mp hkv with z | z
      · subst z; exact hb
      · exact e2 kv z
    · cases e
theorem Ents.merge {m : List Addr} {kvs : List (List Key × AV)} {cs : List (List Key × Addr × V)} (r : Paired (fun (p : List Key × AV) (q : List Key × Addr × V) => p.1 = q.1 ∧ RV K H m p.2 q.2.2) kvs cs) : ∀ {D : List (List Key × AV)} {W : List (List Key × V)}, Ents K H m D W → Ents K H m (mergeA D kvs) (mergeT W cs) := by
  induction r with
  | nil => intro D W h; exact h
  | @cons p q ps qs h t ih =>
    intro D W g
    refine ih (D := aPut D p.1 p.2) (W := putK W q.1 q.2.2) ?_
    rw [← h.1]; exact g.put p.1 h.2
theorem RelH.apartD {m : List Addr} {A : AH} {D : Addr} {xs ys : List (List Key × V)} (R : RelH K m A H) (n : D ∉ m) (h : H D = some (.dT xs)) : RelH K m A (upd H D (.dT ys)) ∧ Stay K m H m (upd H D (.dT ys)) := by
  have st : Stay K m H m (upd H D (.dT ys)) := ⟨fun _ _ e => e, fun a zs e => by
    rw [upd_ne (fun z => by rw [z, h] at e; cases e)]; exact e, fun a zs e => by
    rcases e with ⟨o, e⟩ | e
    · exact .inl ⟨o, by rw [upd_ne (fun z => by rw [z, h] at e; cases e)]; exact e⟩
    · exact .inr e, fun a o zs e => by rw [upd_ne (fun z => by rw [z, h] at e; cases e)]; exact e⟩
  exact ⟨⟨R.len, R.nd, fun i b o hb ho => (R.at_ i b o hb ho).mono0 st (upd_ne fun z => n (z ▸ List.mem_of_getElem? hb))⟩, st⟩
theorem s_dct (hu : X.A.units < cLine) {keys : List (Option Expr)} {values : List Expr} {es : List E} {trs : List (TE × TE)} (h : PPs X pos keys values trs) (hall : keys.all (·.isSome) = true) (hl : keys.length = values.length) (h0 : keys ≠ []) (h15 : keys.length ≤ 15)
    (hr : RdP X.K c es trs) : PE X (.Dict keys values pos) (rdE X.K c (.dct es)) :=
  PE.mono (pe_dispT hu h hall hl h0 h15) fun σ H Q ⟨m, A, aσ, R, S, h⟩ => fun p np => by
    simp only [evE] at h
    have t0 : Tr m H m (upd H p (.dT [])) := Tr.more R np
    refine hr m A aσ σ _ _ (R.more np) (S.mono t0) (FG.imp (FG.shift (FG.bind0 h) t0) fun xs A1 m1 H1 t1 R1 g ys ry => ?_)
    have e1 : H1 p = some (.dT []) := t1.keep p _ upd_same (R.fresh np)
    have n1 : p ∉ m1 := fun hb => by have := t1.new p hb (R.fresh np); rw [upd_same] at this; cases this
    split at g
    · rename_i kvs hk
      split at g
      · rename_i hz
        obtain ⟨cs, f1, f2, f3, f4⟩ := pairs_of ry hk
        refine ⟨e1, cs, f1, f2, by rw [f3]; exact hz, ?_⟩
        obtain ⟨R2, st⟩ := R1.apartD (ys := mergeT [] cs) n1 e1
        have ent : Ents X.K H1 m1 (mergeA [] kvs) (mergeT [] cs) := Ents.merge f4 .nil
        have st2 : Stay X.K m1 (upd H1 p (.dT (mergeT [] cs))) (m1 ++ [p]) (upd H1 p (.dT (mergeT [] cs))) := ⟨fun i c e => by rw [List.getElem?_append_left (List.getElem?_eq_some_iff.mp e).1]; exact e, fun _ _ e => e, fun _ _ e => e, fun _ _ _ e => e⟩
        refine g (m1 ++ [p]) _ (((t0.trans t1).apart np).adopt np) (R2.adopt n1 ⟨_, .inl ⟨rfl, upd_same⟩, Paired.mapP ent fun p q z => ⟨z.1, (z.2.mono0 st).mono0 st2⟩⟩) _ (.ref ?_)
        rw [← R1.len, List.getElem?_append_right (Nat.le_refl _)]; simp
      · exact False.elim g
    · exact False.elim g
end
end Ev


set_option linter.all false
set_option maxRecDepth 100000
set_option maxHeartbeats 4000000
namespace Ev
open PySem PySem.Spec PyProof.Rows L2
section
variable {c : Cfg} {G : GI} {N : List Str} {k : Nat} {X : Cx} {sc : Scope}
structure Snd (c : Cfg) (G : GI) (N : List Str) (k n : Nat) (X : Cx) (sc : Scope) : Prop where
  E : ∀ e e', trE G N n sc e = some e' → PE X e (rdE X.K c e') ∧ PT X e (rdT X.K c e')
  and_ : ∀ es e' pos, trAnd G N n sc es = some e' → PE X (.BoolOp .And es pos) (rdE X.K c e') ∧ PW X (.BoolOp .And es pos) (rdT X.K c e')
  or_ : ∀ es e' pos, trOr G N n sc es = some e' → PE X (.BoolOp .Or es pos) (rdE X.K c e') ∧ PW X (.BoolOp .Or es pos) (rdT X.K c e')
  Es : ∀ es es', trEs G N n sc es = some es' → PA X es (rdEs X.K c es')
  D : ∀ ks vs es pos, trD G N n sc ks vs = some es → ∃ trs, PPs X pos ks vs trs ∧ ks.all (·.isSome) = true ∧ ks.length = vs.length ∧ RdP X.K c es trs
  O : ∀ o o', trO G N n sc o = some o' → PO X o (rdO X.K c o')
  L : ∀ e l, trL G N n sc e = some l → PE X e (rdL X.K c l)
  Lc : ∀ elt gens scope pos l, trL G N n sc (.ListComp elt gens scope pos) = some l → ∃ (tg iter : Expr) (ifs : List Expr) (own : List (Str × Nat)) (wi : TI) (g : TG) (tt : TT) (te : TE), gens = [⟨tg, iter, ifs, 0⟩] ∧ PI X tg iter wi ∧
    BlkOk X.N X.env.scope scope own ∧ (∀ (s : Shared) (H : Hp) (C : Addr) (cl : List (Str × Addr)) (fp : List Addr), PG (X.blk s H scope (compEnvC scope cl C X.env) fp) tg g) ∧
    (∀ (s : Shared) (H : Hp) (C : Addr) (cl : List (Str × Addr)) (fp : List Addr), PTs (X.blk s H scope (compEnvC scope cl C X.env) fp) ifs tt) ∧
    (∀ (s : Shared) (H : Hp) (C : Addr) (cl : List (Str × Addr)) (fp : List Addr), PE (X.blk s H scope (compEnvC scope cl C X.env) fp) elt te) ∧ (∀ x, foldedSetIterable iter X.env x = pure x) ∧
    ∀ σ H Q, rdL X.K c l σ H Q → tLc wi g tt te (own.map (·.2)) σ H Q
  I : ∀ e tg it, trI G N n sc e tg = some it → PI X tg e (rdI X.K c it) ∧ NoStar e
  T : ∀ fc : Str → Bool, (∀ x, fc x = true → X.fn x = true) → ∀ e t, trT G N n fc sc e = some t → PG X e (rdTg X.K c t)
  Ts : ∀ fc : Str → Bool, (∀ x, fc x = true → X.fn x = true) → ∀ es ts, trTs G N n fc sc es = some ts → PGs X es (rdTs X.K c ts) ∧ (∀ e ∈ es, NoStar e) ∧ ts.length = es.length

theorem CxOk.hu (O : CxOk c G N k X sc) : X.A.units + 65 < cLine := by have := O.room.un; omega
theorem CxOk.blk (O : CxOk c G N k X sc) {scope : Scope} (s : Shared) (H : Hp) (C : Addr) (cl : List (Str × Addr)) (fp : List Addr) : CxOk c G N k (X.blk s H scope (compEnvC scope cl C X.env) fp) (relS scope sc) :=
  ⟨by show relabel scope X.env = relS scope sc; rw [← O.sc]; rfl, O.N, O.nd, O.calm, O.room, O.blt, O.gcd, O.con, O.fn⟩
theorem tyL {x : Str} {T : String} (h : tyOf x = some T) : RelV (.ty T) (.type T) := rfl
theorem lf_ok (hc : X.calm = true) (hblt : ∀ x, isBlt x = true → X.mg x = none) {x : Str} {f : LF} {a : Expr} {l : L} {p pos : Pos} {pb : Bool} (h : lfOf pb x = some f) (hb : isBlt x = true) (hg : Gl X x) (hx : okName x = true) (ns : NoStar a) (ha : PE X a (rdL X.K c l)) :
    PE X (.Call (.Name x p) [a] [] pos) (rdE X.K c (.lf f l)) := by
  have hm := hblt x hb
  unfold lfOf at h
  split at h
  · rename_i e; subst e
    cases pb
    · cases h; exact s_lfT lf_tup hg hm (by decide +kernel) hx ns ha
    · cases h; exact s_lfT lf_tups hg hm (by decide +kernel) hx ns ha
  · split at h
    · rename_i e; subst e; cases h; exact s_lf1 (lf_sum hc) hg hm (by decide +kernel) hx ns ha
    · split at h
      · rename_i e; subst e; cases h; exact s_lf1 (lf_all hc) hg hm (by decide +kernel) hx ns ha
      · split at h
        · rename_i e; subst e; cases h; exact s_lf1 (lf_any hc) hg hm (by decide +kernel) hx ns ha
        · split at h
          · rename_i e; subst e; cases h; exact s_lf1 lf_len hg hm (by decide +kernel) hx ns ha
          · split at h
            · rename_i e; subst e; cases h; exact s_lf1 (lf_max hc) hg hm (by decide +kernel) hx ns ha
            · split at h
              · rename_i e; subst e; cases h; exact s_lf1 (lf_min hc) hg hm (by decide +kernel) hx ns ha
              · cases h
theorem bifA_ok (hc : X.calm = true) (hblt : ∀ x, isBlt x = true → X.mg x = none) {x : Str} {n : Nat} {f : Bif} {a : Expr} {es : List Expr} {es' : List E} {p pos : Pos} {pb : Bool} (h : bifA pb x n = some f) (hb : isBlt x = true) (hg : Gl X x) (hx : okName x = true) (ns : ∀ e ∈ a :: es, NoStar e)
    (ha : PA X (a :: es) (rdEs X.K c es')) : PE X (.Call (.Name x p) (a :: es) [] pos) (rdE X.K c (.bif f es')) := by
  have hm := hblt x hb
  unfold bifA at h
  split at h
  · rename_i e; obtain ⟨e, _⟩ := e; subst e; cases h; exact s_bif1 cb_isinst hg hm (by decide +kernel) hx ns ha
  · split at h
    · rename_i e; obtain ⟨e, _⟩ := e; subst e; cases h; exact s_bif1 cb_len hg hm (by decide +kernel) hx ns ha
    · split at h
      · rename_i e; obtain ⟨e, _⟩ := e; subst e; cases h; exact s_bif1 cb_abs hg hm (by decide +kernel) hx ns ha
      · split at h
        · rename_i e; obtain ⟨e, _⟩ := e; subst e; cases h; exact s_bifT cb_int hg hm (by decide +kernel) hx ns ha
        · split at h
          · rename_i e; obtain ⟨e, _⟩ := e; subst e; cases h; exact s_bif1 (cb_min2 hc) hg hm (by decide +kernel) hx ns ha
          · split at h
            · rename_i e; obtain ⟨e, _⟩ := e; subst e; cases h; exact s_bif1 (cb_max2 hc) hg hm (by decide +kernel) hx ns ha
            · split at h
              · rename_i e; obtain ⟨e, _⟩ := e; subst e; cases h; exact s_bifT cb_listof hg hm (by decide +kernel) hx ns ha
              · split at h
                · rename_i e; obtain ⟨e, _⟩ := e; subst e
                  cases pb
                  · cases h; exact s_bifT cb_tupof hg hm (by decide +kernel) hx ns ha
                  · cases h; exact s_bifT cb_tupofs hg hm (by decide +kernel) hx ns ha
                · cases h
theorem bifB_ok (hc : X.calm = true) (hblt : ∀ x, isBlt x = true → X.mg x = none) {x : Str} {n : Nat} {f : Bif} {a : Expr} {es : List Expr} {es' : List E} {p pos : Pos} (h : bifB x n = some f) (hb : isBlt x = true) (hg : Gl X x) (hx : okName x = true) (ns : ∀ e ∈ a :: es, NoStar e)
    (ha : PA X (a :: es) (rdEs X.K c es')) : PE X (.Call (.Name x p) (a :: es) [] pos) (rdE X.K c (.bif f es')) := by
  have hm := hblt x hb
  unfold bifB at h
  split at h
  · rename_i e; obtain ⟨e, _⟩ := e; subst e; cases h; exact s_bif1 (cb_lfof (lf_sum hc)) hg hm (by decide +kernel) hx ns ha
  · split at h
    · rename_i e; obtain ⟨e, _⟩ := e; subst e; cases h; exact s_bif1 (cb_lfof (lf_all hc)) hg hm (by decide +kernel) hx ns ha
    · split at h
      · rename_i e; obtain ⟨e, _⟩ := e; subst e; cases h; exact s_bif1 (cb_lfof (lf_any hc)) hg hm (by decide +kernel) hx ns ha
      · split at h
        · rename_i e; obtain ⟨e, _⟩ := e; subst e; cases h; exact s_bif1 (cb_lfof (lf_max hc)) hg hm (by decide +kernel) hx ns ha
        · split at h
          · rename_i e; obtain ⟨e, _⟩ := e; subst e; cases h; exact s_bif1 (cb_lfof (lf_min hc)) hg hm (by decide +kernel) hx ns ha
          · split at h
            · rename_i e; obtain ⟨e, _⟩ := e; subst e; cases h; exact s_bif1 cb_sorted hg hm (by decide +kernel) hx ns ha
            · cases h
theorem bif_ok (hc : X.calm = true) (hblt : ∀ x, isBlt x = true → X.mg x = none) {x : Str} {n : Nat} {f : Bif} {a : Expr} {es : List Expr} {es' : List E} {p pos : Pos} {pb : Bool} (h : bifOf pb x n = some f) (hb : isBlt x = true) (hg : Gl X x) (hx : okName x = true) (ns : ∀ e ∈ a :: es, NoStar e)
    (ha : PA X (a :: es) (rdEs X.K c es')) : PE X (.Call (.Name x p) (a :: es) [] pos) (rdE X.K c (.bif f es')) := by
  unfold bifOf at h
  split at h
  · rename_i e; cases h; exact bifA_ok hc hblt e hb hg hx ns ha
  · exact bifB_ok hc hblt h hb hg hx ns ha
theorem mth_ok (hu : X.A.units + 65 < cLine) {x : Str} {o : Expr} {es : List Expr} {f : Mth} {o' : E} {es' : List E} {apos cpos : Pos} (h : mthOf x es.length = some f) (hl : (apos.endLine == cpos.line) = true) (hz : es.length < 29) (h0 : noCall0 o = true) (ns : ∀ e ∈ es, NoStar e)
    (ho : PE X o (rdE X.K c o')) (ha : PA X es (rdEs X.K c es')) (hlen : es'.length = es.length) : PE X (.Call (.Attribute o x apos) es [] cpos) (rdE X.K c (.mth f o' es')) := by
  have few : ∀ {e : Expr} {r : List Expr}, es = e :: r → ((backTo cpos (starEach (e :: r) X.env)).all (fun x => !x.1) && (backToKw cpos (keywordEach [] X.env)).all (fun x => x.1.isSome)
      && decide ((e :: r).length + ([] : List Keyword).length + (if ([] : List Keyword).isEmpty then 0 else 1) < 30)) = true := fun {e r} q => by
    rw [starAll (q ▸ ns)]
    have : (e :: r).length < 29 := q ▸ hz
    simp [backToKw, keywordEach] at this ⊢
    omega
  have one : ∀ {id : String} {name : Str} {f : Mth}, f.dict = false → f.txt = false → PlainAttrs "list" → Slot "list" name id → typeOf (.builtin id) = pure (.type "method_descriptor") → MtR X id (rMth X.K f) → es.length = 1 → PE X (.Call (.Attribute o name apos) es [] cpos) (rdE X.K c (.mth f o' es')) := fun {id name f} hf ht pa sl ty mt h1 => by
    cases es with
    | nil => cases h1
    | cons e r =>
      exact PE.mono (pe_bm pa sl ty mt ho ha (attrBase_of (noCall0_of h0)) (few rfl) hl (starEach_cons (ns e (by simp))) (starPlain fun x hx => ns x (List.mem_cons_of_mem _ hx))) fun σ H Q h => rd_mth hf ht h
  have zero : ∀ {id : String} {name : Str} {f : Mth}, f.dict = false → f.txt = false → PlainAttrs "list" → Slot "list" name id → typeOf (.builtin id) = pure (.type "method_descriptor") → MtR X id (rMth X.K f) → es.length = 0 → PE X (.Call (.Attribute o name apos) es [] cpos) (rdE X.K c (.mth f o' es')) := fun {id name f} hf ht pa sl ty mt h1 => by
    cases es with
    | cons e r => cases h1
    | nil =>
      cases es' with
      | cons _ _ => cases hlen
      | nil => exact PE.mono (pe_bm0 pa sl ty mt ho (attrBase_of (noCall0_of h0)) hl) fun σ H Q h => rd_mth0 hf ht h
  have dct : ∀ {id : String} {name : Str} {f : Mth}, f.dict = true → PlainAttrs "dict" → Slot "dict" name id → typeOf (.builtin id) = pure (.type "method_descriptor") → MtR X id (rMth X.K f) → es ≠ [] → PE X (.Call (.Attribute o name apos) es [] cpos) (rdE X.K c (.mth f o' es')) := fun {id name f} hf pa sl ty mt h1 => by
    cases es with
    | nil => exact absurd rfl h1
    | cons e r =>
      exact PE.mono (pe_bm pa sl ty mt ho ha (attrBase_of (noCall0_of h0)) (few rfl) hl (starEach_cons (ns e (by simp))) (starPlain fun x hx => ns x (List.mem_cons_of_mem _ hx))) fun σ H Q h => rd_mthD hf h
  unfold mthOf at h
  split at h
  · rename_i e; obtain ⟨e, e2⟩ := e; subst e; cases h; exact one rfl rfl PySem.F.plainAttrs_list PySem.F.slot_list_append PySem.F.type_list_append mr_append e2
  · split at h
    · rename_i e; obtain ⟨e, e2⟩ := e; subst e; cases h; exact zero rfl rfl PySem.F.plainAttrs_list PySem.F.slot_list_pop PySem.F.type_list_pop mr_pop0 e2
    · split at h
      · rename_i e; obtain ⟨e, e2⟩ := e; subst e; cases h; exact one rfl rfl PySem.F.plainAttrs_list PySem.F.slot_list_pop PySem.F.type_list_pop mr_pop1 e2
      · split at h
        · rename_i e; obtain ⟨e, e2⟩ := e; subst e; cases h; exact zero rfl rfl PySem.F.plainAttrs_list PySem.F.slot_list_reverse PySem.F.type_list_reverse mr_reverse e2
        · split at h
          · rename_i e; obtain ⟨e, e2⟩ := e; subst e; cases h; exact one rfl rfl PySem.F.plainAttrs_list PySem.F.slot_list_extend PySem.F.type_list_extend mr_extend e2
          · split at h
            · rename_i e; obtain ⟨e, e2⟩ := e; subst e; cases h; exact dct rfl PySem.F.plainAttrs_dict PySem.F.slot_dict_get PySem.F.type_dict_get (mr_get1 hu) (fun z => by rw [z] at e2; cases e2)
            · split at h
              · rename_i e; obtain ⟨e, e2⟩ := e; subst e; cases h; exact dct rfl PySem.F.plainAttrs_dict PySem.F.slot_dict_get PySem.F.type_dict_get (mr_get2 hu) (fun z => by rw [z] at e2; cases e2)
              · split at h
                · rename_i e; obtain ⟨e, e2⟩ := e; subst e; cases h
                  cases es with
                  | nil => cases e2
                  | cons e r => exact PE.mono (pe_bmD ho ha (attrBase_of (noCall0_of h0)) (few rfl) hl (starEach_cons (ns e (by simp))) (starPlain fun x hx => ns x (List.mem_cons_of_mem _ hx))) fun σ H Q h => rd_index h
                · split at h
                  · rename_i e; obtain ⟨e, e2⟩ := e; subst e; cases h
                    cases es with
                    | nil => cases e2
                    | cons e r => exact PE.mono (pe_bmD ho ha (attrBase_of (noCall0_of h0)) (few rfl) hl (starEach_cons (ns e (by simp))) (starPlain fun x hx => ns x (List.mem_cons_of_mem _ hx))) fun σ H Q h => rd_split h
                  · cases h
theorem s_iteT {a b d : Expr} {a' b' d' : E} {pos : Pos} (hq : PT X a (rdT X.K c a')) (hb : PT X b (rdT X.K c b')) (hd : PT X d (rdT X.K c d')) : PT X (.IfExp a b d pos) (rdT X.K c (.ite a' b' d')) := by
  refine ⟨fun pins s σ H Q I ⟨m, A, aσ, R, S, h⟩ => isTrue_IfExp (thn (hq.run pins s σ H (fun kk H1 => if kk = true then rdT X.K c b' σ H1 Q else rdT X.K c d' σ H1 Q) I ⟨m, A, aσ, R, S, ?_⟩) fun kk s1 ⟨H1, I1, q1⟩ => ?_)⟩
  · have e : evT c (.ite a' b' d') aσ A = (evT c a' aσ A).bind fun k A => if k then evT c b' aσ A else evT c d' aσ A := by
      unfold evT
      simp only [evE]
      cases (evE c a' aσ A).bind tru with
      | bad => rfl
      | ok k A1 => cases k <;> rfl
    rw [e] at h
    refine FG.imp (FG.bind h) fun kk A1 m1 H1 t1 R1 h1 => ?_
    cases kk with
    | true => rw [if_pos rfl] at h1 ⊢; exact ⟨m1, A1, aσ, R1, S.mono t1, h1⟩
    | false => rw [if_neg Bool.false_ne_true] at h1 ⊢; exact ⟨m1, A1, aσ, R1, S.mono t1, h1⟩
  · cases kk with
    | true => rw [if_pos rfl] at q1 ⊢; exact hb.run pins s1 σ H1 Q I1 q1
    | false => rw [if_neg Bool.false_ne_true] at q1 ⊢; exact hd.run pins s1 σ H1 Q I1 q1
theorem snd : ∀ n X sc, CxOk c G N k X sc → Snd c G N k n X sc := by
  intro n
  induction n using Nat.strongRecOn with
  | _ n ih0 =>
  cases n with
  | zero =>
    intro X sc O
    exact ⟨fun e e' h => by simp [trE] at h, fun e e' p h => by simp [trAnd] at h, fun e e' p h => by simp [trOr] at h, fun e e' h => by simp [trEs] at h, fun e e' es p h => by simp [trD] at h, fun e e' h => by simp [trO] at h, fun e e' h => by simp [trL] at h, fun _ _ _ _ _ h => by simp [trL] at h,
      fun e e' t h => by simp [trI] at h, fun _ _ e e' h => by simp [trT] at h, fun _ _ e e' h => by simp [trTs] at h⟩
  | succ n =>
    intro X sc O
    have ih := ih0 n (Nat.lt_succ_self n)
    have S := ih X sc O
    have hLc : ∀ elt gens scope pos l, trL G N (n + 1) sc (.ListComp elt gens scope pos) = some l → ∃ (tg iter : Expr) (ifs : List Expr) (own : List (Str × Nat)) (wi : TI) (g : TG) (tt : TT) (te : TE), gens = [⟨tg, iter, ifs, 0⟩] ∧ PI X tg iter wi ∧
        BlkOk X.N X.env.scope scope own ∧ (∀ (s : Shared) (H : Hp) (C : Addr) (cl : List (Str × Addr)) (fp : List Addr), PG (X.blk s H scope (compEnvC scope cl C X.env) fp) tg g) ∧
        (∀ (s : Shared) (H : Hp) (C : Addr) (cl : List (Str × Addr)) (fp : List Addr), PTs (X.blk s H scope (compEnvC scope cl C X.env) fp) ifs tt) ∧
        (∀ (s : Shared) (H : Hp) (C : Addr) (cl : List (Str × Addr)) (fp : List Addr), PE (X.blk s H scope (compEnvC scope cl C X.env) fp) elt te) ∧ (∀ x, foldedSetIterable iter X.env x = pure x) ∧
        ∀ σ H Q, rdL X.K c l σ H Q → tLc wi g tt te (own.map (·.2)) σ H Q := by
      intro elt gens scope pos l h
      cases gens with
      | nil => simp [trL] at h
      | cons g r =>
        cases r with
        | cons _ _ => simp [trL] at h
        | nil =>
          obtain ⟨tg, iter, ifs, asy⟩ := g
          simp only [trL] at h
          split at h
          · rename_i h0
            subst h0
            split at h
            · rename_i own it t a qs h1 h2 h3 h4 h5
              split at h
              · rename_i hz
                have hown : blkC N sc scope own = true := by
                  unfold ownOf at h1
                  simp only at h1
                  split at h1
                  · rename_i q; cases h1; exact q
                  · cases h1
                have ok : BlkOk X.N X.env.scope scope own := by rw [O.N, O.sc]; exact blkOk_by hown
                have hl : ∀ i ∈ tslots t, i ∈ own.map (·.2) := fun i hi => by
                  have := List.all_eq_true.mp hz i hi
                  simpa using this
                have B := fun s H C cl fp => ih _ _ (O.blk (scope := scope) s H C cl fp)
                have pg : ∀ s H C cl fp, PG (X.blk s H scope (compEnvC scope cl C X.env) fp) tg (rdTg X.K c t) := fun s H C cl fp => (B s H C cl fp).T _ (fun _ q => q) _ _ h3
                have pe : ∀ s H C cl fp, PE (X.blk s H scope (compEnvC scope cl C X.env) fp) elt (rdE X.K c a) := fun s H C cl fp => ((B s H C cl fp).E _ _ h4).1
                obtain ⟨pi, nsi⟩ := S.I _ _ _ h2
                have hq := trEs_len h5
                cases ifs with
                | nil =>
                  cases qs with
                  | cons _ _ => cases hq
                  | nil =>
                    cases h
                    refine ⟨tg, iter, [], own, _, _, rdT X.K c (.lit (.bl true)), _, rfl, pi, ok, pg, fun s H C cl fp => ?_, pe, folded_of nsi, fun σ H Q h => rd_comp hl h⟩
                    exact ⟨fun pins s σ H Q I q => pts_nil.run pins s σ H Q I (by obtain ⟨m, A, aσ, R, S, q⟩ := q; exact q m H Tr.refl R)⟩
                | cons q0 r =>
                  cases qs with
                  | nil => cases hq
                  | cons q' r' =>
                    cases r' with
                    | cons _ _ => cases h
                    | nil =>
                      cases r with
                      | cons _ _ => simp at hq
                      | nil =>
                        cases h
                        have q1 : trE G N (n - 1) (relS scope sc) q0 = some q' := by
                          cases n with
                          | zero => simp [trEs] at h5
                          | succ n' =>
                            simp only [trEs] at h5
                            split at h5
                            · rename_i u v g1 g2; cases h5; exact g1
                            · cases h5
                        have B1 := fun s H C cl fp => ih0 (n - 1) (by omega) _ _ (O.blk (scope := scope) s H C cl fp)
                        exact ⟨tg, iter, [q0], own, _, _, rdT X.K c q', _, rfl, pi, ok, pg, fun s H C cl fp => pts_one ((B1 s H C cl fp).E _ _ q1).2, pe, folded_of nsi, fun σ H Q h => rd_comp hl h⟩
              · cases h
            · cases h
          · cases h
    have hL : ∀ e l, trL G N (n + 1) sc e = some l → PE X e (rdL X.K c l) := by
      intro e l h
      cases e with
      | List es pos =>
        simp only [trL] at h
        cases q : trEs G N n sc es with
        | none => rw [q] at h; cases h
        | some es' => rw [q] at h; cases h; exact s_disp (S.Es _ _ q)
      | ListComp elt gens scope pos =>
        obtain ⟨tg, iter, ifs, own, wi, g, tt, te, e1, pi, ok, pg, pt, pe, fo, rd⟩ := hLc _ _ _ _ _ h
        subst e1
        exact PE.mono (pe_lc O.calm O.nd pi ok pg pt pe fo) rd
      | _ => simp [trL] at h
    have hLs : ∀ e l, trL G N n sc e = some l → PE X e (rdL X.K c l) := S.L
    have truth_of : ∀ {e e'}, PE X e (rdE X.K c e') → (∀ whole, isTrue e X.env whole = (do let v ← whole; standAt e.pos; holding [v] (truthy v))) → PE X e (rdE X.K c e') ∧ PT X e (rdT X.K c e') := fun h ht => ⟨h, s_truth ht h⟩
    refine ⟨?E, ?A, ?O', ?Es, ?Dd, ?Op, hL, hLc, ?I, ?T, ?Ts⟩
    case E =>
      intro e e' h
      cases e with
      | Constant q kk pos =>
        refine truth_of ?_ (fun _ => rfl)
        cases q with
        | none => cases h; exact PE.mono pe_non fun σ H Q ⟨m, A, aσ, R, S, q⟩ => Fin.here R q .non
        | bool b => cases h; exact PE.mono pe_bl fun σ H Q ⟨m, A, aσ, R, S, q⟩ => Fin.here R q (.bl b)
        | int b => cases h; exact PE.mono pe_int fun σ H Q ⟨m, A, aσ, R, S, q⟩ => Fin.here R q (.int b)
        | str b => cases h; exact PE.mono pe_str fun σ H Q ⟨m, A, aσ, R, S, q⟩ => Fin.here R q (.str b)
        | _ => cases h
      | Name x pos =>
        refine truth_of ?_ (fun _ => rfl)
        simp only [trE] at h
        split at h
        · rename_i hx
          obtain ⟨hx1, hx2, hx3⟩ := okName_of hx
          split at h
          · rename_i hv
            cases q : slotOf N x with
            | none => rw [q] at h; cases h
            | some i =>
              rw [q] at h
              cases h
              refine PE.mono (pe_var (by rw [O.N]; exact slotOf_get q) (by rw [O.sc]; exact vis_of hv) hx1 hx2) fun σ H Q ⟨m, A, aσ, R, S, h⟩ => ?_
              have h : Fin X.K m H (match aσ[i]? with | some (some v) => .ok v A | _ => .bad) Q := h
              cases e1 : aσ[i]? with
              | none => rw [e1] at h; exact False.elim h
              | some o =>
                cases o with
                | none => rw [e1] at h; exact False.elim h
                | some v =>
                  rw [e1] at h
                  obtain ⟨y, e2, r⟩ := S.2 i v e1
                  exact ⟨y, e2, Fin.here R h r⟩
          · split at h
            · rename_i hg
              have hg := gl_of O.sc hg
              split at h
              · rename_i hb
                cases q : tyOf x with
                | none => rw [q] at h; cases h
                | some T =>
                  rw [q] at h
                  cases h
                  exact PE.mono (pe_bltn hg (O.blt x hb) (tyOf_boot q) (tyL q) hx3 hx1) fun σ H Q ⟨m, A, aσ, R, S, h⟩ => Fin.here R h (.ty T)
              · split at h
                · rename_i hc
                  cases h
                  obtain ⟨v, u, w, e1, e2, r, rr⟩ := O.con x hc
                  refine PE.mono (pe_glob hg e2 r hx1) fun σ H Q ⟨m, A, aσ, R, S, h⟩ => ?_
                  have h : Fin X.K m H (match c.gl x with | some v => .ok v A | none => .bad) Q := h
                  rw [e1] at h
                  exact Fin.here R h (rr H m)
                · cases h
            · cases h
        · cases h
      | BinOp a o b pos =>
        refine truth_of ?_ (fun _ => rfl)
        simp only [trE] at h
        split at h
        · rename_i o' a' b' h1 h2 h3
          cases h
          have := s_bin (o := o') (pos := pos) (S.E _ _ h2).1 (S.E _ _ h3).1
          rw [opOf_bop h1] at this
          exact this
        · cases h
      | UnaryOp o a pos =>
        cases o with
        | USub =>
          refine truth_of ?_ (fun _ => rfl)
          simp only [trE] at h
          cases q : trE G N n sc a with
          | none => rw [q] at h; cases h
          | some a' => rw [q] at h; cases h; exact s_neg (S.E _ _ q).1
        | Not =>
          simp only [trE] at h
          cases q : trE G N n sc a with
          | none => rw [q] at h; cases h
          | some a' => rw [q] at h; cases h; exact s_not (S.E _ _ q).1 (S.E _ _ q).2
        | _ => simp [trE] at h
      | BoolOp o es pos =>
        cases o with
        | And => simp only [trE] at h; obtain ⟨h1, h2⟩ := S.and_ es e' pos h; exact ⟨h1, h2.pt⟩
        | Or => simp only [trE] at h; obtain ⟨h1, h2⟩ := S.or_ es e' pos h; exact ⟨h1, h2.pt⟩
      | Compare a ops cs pos =>
        cases ops with
        | nil => simp [trE] at h
        | cons o ops =>
          cases cs with
          | nil => cases ops <;> simp [trE] at h
          | cons b cs =>
            cases ops with
            | nil =>
              cases cs with
              | cons _ _ => simp [trE] at h
              | nil =>
                simp only [trE] at h
                split at h
                · rename_i a' b' h1 h2
                  cases h
                  exact s_cmp O.hu (trE_noStar h2) (S.E _ _ h1).1 (S.E _ _ h2).1
                · cases h
            | cons p ops =>
              cases cs with
              | nil => cases ops <;> simp [trE] at h
              | cons d cs =>
                cases ops with
                | cons _ _ => simp [trE] at h
                | nil =>
                  cases cs with
                  | cons _ _ => simp [trE] at h
                  | nil =>
                    simp only [trE] at h
                    split at h
                    · rename_i a' b' d' h1 h2 h3
                      cases h
                      exact s_chain O.hu (trE_noStar h3) (S.E _ _ h1).1 (S.E _ _ h2).1 (S.E _ _ h3).1
                    · cases h
      | IfExp q a b pos =>
        simp only [trE] at h
        split at h
        · rename_i q' a' b' h1 h2 h3
          cases h
          exact ⟨s_ite (S.E _ _ h1).2 (S.E _ _ h2).1 (S.E _ _ h3).1, s_iteT (S.E _ _ h1).2 (S.E _ _ h2).2 (S.E _ _ h3).2⟩
        · cases h
      | Tuple es kk pos =>
        refine truth_of ?_ (fun _ => rfl)
        simp only [trE] at h
        cases q : trEs G N n sc es with
        | none => rw [q] at h; cases h
        | some es' => rw [q] at h; cases h; exact s_tup (S.Es _ _ q)
      | List es pos =>
        refine truth_of ?_ (fun _ => rfl)
        simp only [trE] at h
        cases q : trL G N n sc (.List es pos) with
        | none => rw [q] at h; cases h
        | some l => rw [q] at h; cases h; exact s_new (hLs _ _ q)
      | ListComp a gs scope pos =>
        refine truth_of ?_ (fun _ => rfl)
        simp only [trE] at h
        cases q : trL G N n sc (.ListComp a gs scope pos) with
        | none => rw [q] at h; cases h
        | some l => rw [q] at h; cases h; exact s_new (hLs _ _ q)
      | Subscript a b pos =>
        refine truth_of ?_ (fun _ => rfl)
        have plain : ∀ {a' b'}, trE G N n sc a = some a' → trE G N n sc b = some b' → PE X (.Subscript a b pos) (rdE X.K c (.ix a' b')) := fun h1 h2 => s_ix O.hu (trE_noSlice h2) (S.E _ _ h1).1 (S.E _ _ h2).1
        cases b with
        | Slice lo hi st p2 =>
          cases st with
          | some _ =>
            simp only [trE] at h
            split at h
            · rename_i h1 h2; exact absurd h2 (by cases n <;> simp [trE])
            · cases h
          | none =>
            simp only [trE] at h
            split at h
            · rename_i a' lo' hi' h1 h2 h3
              cases h
              exact s_sl (S.E _ _ h1).1 (S.O _ _ h2) (S.O _ _ h3)
            · cases h
        | _ =>
          simp only [trE] at h
          split at h
          · rename_i a' b' h1 h2
            cases h
            exact plain h1 h2
          · cases h
      | Call f es kws pos =>
        cases kws with
        | cons _ _ => cases f <;> simp [trE] at h
        | nil =>
          refine truth_of ?_ (fun _ => rfl)
          cases f with
          | Name x p =>
            simp only [trE] at h
            split at h
            · rename_i hz
              rw [Bool.and_eq_true] at hz
              obtain ⟨hx, hg⟩ := hz
              have hg := gl_of O.sc hg
              split at h
              · rename_i fi hf
                obtain ⟨f, fd, ps, e1, e2, e6, e7⟩ := O.fn x fi hf
                split at h
                · cases h
                · split at h
                  · rename_i d hd
                    obtain ⟨dvs, ds, e3, e4, e5⟩ := e7 d (List.mem_of_find?_eq_some hd)
                    cases q : trEs G N n sc es with
                    | none => rw [q] at h; cases h
                    | some es' =>
                      rw [q] at h
                      cases h
                      cases es with
                      | nil =>
                        cases es' with
                        | cons _ _ => have := trEs_len q; cases this
                        | nil => exact s_call0 e6 O.room hg e1 e2 e3 e4 e5 hx
                      | cons a r => exact s_call e6 O.room hg e1 e2 e3 e4 e5 hx (trEs_noStar q) (S.Es _ _ q)
                  · cases h
              · split at h
                · rename_i hb
                  split at h
                  · rename_i a
                    split at h
                    · split at h
                      · rename_i f l h1 h2
                        cases h
                        refine lf_ok O.calm O.blt h1 hb hg hx ?_ (hLs _ _ h2)
                        refine ⟨fun v p z => ?_, fun u v p z => ?_⟩ <;> subst z <;> cases n <;> simp [trL] at h2
                      · cases h
                    · split at h
                      · rename_i b hb2
                        have eb : ∃ p2 pos2, a = .Call (.Name "range" p2) [b] [] pos2 ∧ x = "list" ∧ glB sc "range" = true := by
                          unfold rngArg at hb2
                          split at hb2
                          · split at hb2
                            · rename_i hc2
                              obtain ⟨c1, c2, c3⟩ := hc2
                              subst c1 c2
                              cases hb2
                              exact ⟨_, _, rfl, rfl, c3⟩
                            · cases hb2
                          · cases hb2
                        obtain ⟨p2, pos2, rfl, rfl, hgr⟩ := eb
                        cases q : trE G N n sc b with
                        | none => rw [q] at h; cases h
                        | some b' =>
                          rw [q] at h
                          cases h
                          exact s_lrange O.calm hg (gl_of O.sc hgr) (O.blt _ hb) (O.blt "range" (by decide +kernel)) (trE_noStar q) (S.E _ _ q).1
                      split at h
                      · rename_i f a' h1 h2
                        cases h
                        refine bif_ok O.calm O.blt h1 hb hg hx (fun e he => ?_) (s_cons (trE_noStar h2) (S.E _ _ h2).1 s_nil)
                        have : e = a := by simpa using he
                        subst this; exact trE_noStar h2
                      · cases h
                  · split at h
                    · rename_i f es' h1 h2
                      cases h
                      cases es with
                      | nil => exfalso; revert h1; simp [bifOf, bifA, bifB]
                      | cons a r => exact bif_ok O.calm O.blt h1 hb hg hx (trEs_noStar h2) (S.Es _ _ h2)
                    · cases h
                · split at h
                  · rename_i hz
                    simp only [Bool.and_eq_true, beq_iff_eq] at hz
                    obtain ⟨⟨hG, hn⟩, hl⟩ := hz
                    subst hn
                    cases q : trEs G N n sc es with
                    | none => rw [q] at h; cases h
                    | some es' =>
                      rw [q] at h
                      cases h
                      cases es with
                      | nil => cases hl
                      | cons a r => exact s_gcd hg (O.gcd hG) hx (trEs_noStar q) (S.Es _ _ q)
                  · cases h
            · cases h
          | Attribute o m apos =>
            simp only [trE] at h
            split at h
            · rename_i hz
              simp only [Bool.and_eq_true, decide_eq_true_eq] at hz
              split at h
              · rename_i f o' es' h1 h2 h3
                cases h
                exact mth_ok O.hu h1 hz.1.1 hz.1.2 hz.2 (trEs_noStar h3) (S.E _ _ h2).1 (S.Es _ _ h3) (trEs_len h3)
              · cases h
            · cases h
          | _ => simp [trE] at h
      | Dict ks vs pos =>
        cases ks with
        | cons k0 ks =>
          simp only [trE] at h
          split at h
          · rename_i hz
            have hz := of_decide_eq_true hz
            cases q : trD G N n sc (k0 :: ks) vs with
            | none => rw [q] at h; cases h
            | some es =>
              rw [q] at h
              cases h
              obtain ⟨trs, g1, g2, g3, g4⟩ := S.D _ _ _ pos q
              refine truth_of (s_dct (by have := O.hu; omega) g1 g2 g3 (by simp) (by simp; omega) g4) (fun _ => rfl)
          · cases h
        | nil =>
          cases vs with
          | cons _ _ => simp [trE] at h
          | nil => simp only [trE] at h; cases h; exact truth_of s_dnew (fun _ => rfl)
      | _ => simp [trE] at h
    case A =>
      intro es e' pos h
      cases es with
      | nil => simp [trAnd] at h
      | cons e es =>
        cases es with
        | nil => simp only [trAnd] at h; exact ⟨pe_one (S.E _ _ h).1, pw_and1 (S.E _ _ h).2⟩
        | cons b es =>
          simp only [trAnd] at h
          split at h
          · rename_i a' r' h1 h2
            cases h
            obtain ⟨g1, g2⟩ := S.and_ _ _ pos h2
            exact s_and (S.E _ _ h1).1 (S.E _ _ h1).2 g1 g2
          · cases h
    case O' =>
      intro es e' pos h
      cases es with
      | nil => simp [trOr] at h
      | cons e es =>
        cases es with
        | nil => simp only [trOr] at h; exact ⟨pe_one (S.E _ _ h).1, pw_or1 (S.E _ _ h).2⟩
        | cons b es =>
          simp only [trOr] at h
          split at h
          · rename_i a' r' h1 h2
            cases h
            obtain ⟨g1, g2⟩ := S.or_ _ _ pos h2
            exact s_or (S.E _ _ h1).1 (S.E _ _ h1).2 g1 g2
          · cases h
    case Es =>
      intro es es' h
      cases es with
      | nil => simp only [trEs] at h; cases h; exact s_nil
      | cons e es =>
        simp only [trEs] at h
        split at h
        · rename_i a' r' h1 h2
          cases h
          exact s_cons (trE_noStar h1) (S.E _ _ h1).1 (S.Es _ _ h2)
        · cases h
    case Dd =>
      intro ks vs es pos h
      cases ks with
      | nil =>
        cases vs with
        | nil => simp only [trD] at h; cases h; exact ⟨[], pps_nil, rfl, rfl, rdP_nil⟩
        | cons _ _ => simp [trD] at h
      | cons k0 ks =>
        cases k0 with
        | none => simp [trD] at h
        | some k0 =>
          cases vs with
          | nil => simp [trD] at h
          | cons v vs =>
            simp only [trD] at h
            split at h
            · rename_i k' v' r h1 h2 h3
              cases h
              obtain ⟨trs, g1, g2, g3, g4⟩ := S.D _ _ _ pos h3
              exact ⟨_, pps_cons (S.E _ _ h1).1 (S.E _ _ h2).1 g1, by simpa using g2, by simp [g3], rdP_cons g4⟩
            · cases h
    case Op =>
      intro o o' h
      cases o with
      | none => simp only [trO] at h; cases h; exact s_ono
      | some e =>
        simp only [trO] at h
        cases q : trE G N n sc e with
        | none => rw [q] at h; cases h
        | some a' => rw [q] at h; cases h; exact s_osome (S.E _ _ q).1
    case I =>
      intro e tg it h
      have hv : ∀ {e'}, trE G N n sc e = some e' → PI X tg e (rdI X.K c (.v e')) ∧ NoStar e := fun q => ⟨s_iv (S.E _ _ q).1, trE_noStar q⟩
      have hv' : ∀ {it}, (trE G N n sc e).map I.v = some it → PI X tg e (rdI X.K c it) ∧ NoStar e := fun q => by
        cases q1 : trE G N n sc e with
        | none => rw [q1] at q; cases q
        | some e' => rw [q1] at q; cases q; exact hv q1
      have hl : ∀ {it}, (trL G N n sc e).map I.l = some it → PI X tg e (rdI X.K c it) ∧ NoStar e := fun q => by
        cases q1 : trL G N n sc e with
        | none => rw [q1] at q; cases q
        | some e' =>
          rw [q1] at q; cases q
          refine ⟨s_il (S.L _ _ q1), fun v p z => ?_, fun u v p z => ?_⟩ <;> subst z <;> cases n <;> simp [trL] at q1
      cases e with
      | Call f es kws pos =>
        cases f with
        | Name x p =>
          cases kws with
          | cons _ _ => exact hv' h
          | nil =>
            simp only [trI] at h
            split at h
            · rename_i hx
              subst hx
              split at h
              · rename_i hg
                rw [Bool.and_eq_true] at hg
                have hm := O.blt ("zip" : Str) (by decide +kernel)
                split at h
                · rename_i a b
                  split at h
                  · rename_i a' b' h1 h2
                    cases h
                    cases tg with
                    | Tuple elts kk tpos => exact ⟨s_izip (gl_of O.sc hg.1) hm (trE_noStar h1) (trE_noStar h2) (S.E _ _ h1).1 (S.E _ _ h2).1, ⟨fun v p z => (by cases z), fun u v p z => (by cases z)⟩⟩
                    | _ => simp [isTupE] at hg
                  · cases h
                · cases h
              · cases h
            split at h
            · rename_i hx
              subst hx
              split at h
              · rename_i hg
                have hg := gl_of O.sc hg
                have hm := O.blt ("range" : Str) (by decide +kernel)
                split at h
                · rename_i a
                  cases q : trE G N n sc a with
                  | none => rw [q] at h; cases h
                  | some a' => rw [q] at h; cases h; exact ⟨s_ir1 hg hm (trE_noStar q) (S.E _ _ q).1, ⟨fun v p z => (by cases z), fun u v p z => (by cases z)⟩⟩
                · rename_i a b
                  split at h
                  · rename_i a' b' h1 h2
                    cases h
                    exact ⟨s_ir2 hg hm (trE_noStar h1) (trE_noStar h2) (S.E _ _ h1).1 (S.E _ _ h2).1, ⟨fun v p z => (by cases z), fun u v p z => (by cases z)⟩⟩
                  · cases h
                · cases h
              · cases h
            · exact hv' h
        | _ => exact hv' h
      | Set _ _ _ => simp [trI] at h
      | List _ _ => exact hl h
      | ListComp _ _ _ _ => exact hl h
      | _ => exact hv' h
    case T =>
      intro fc hfc e t h
      cases e with
      | Name x pos =>
        simp only [trT] at h
        split at h
        · rename_i hz
          rw [Bool.and_eq_true] at hz
          cases q : slotOf N x with
          | none => rw [q] at h; cases h
          | some i =>
            rw [q] at h
            cases h
            refine s_tn O.nd (by rw [O.N]; exact slotOf_get q) (by rw [O.sc]; exact loc_of hz.1) ?_
            rcases Bool.or_eq_true_iff.mp hz.2 with z | z
            · exact .inr (by rw [O.sc]; exact beq_iff_eq.mp z)
            · exact .inl (hfc x z)
        · cases h
      | Tuple es kk pos =>
        simp only [trT] at h
        cases q : trTs G N n fc sc es with
        | none => rw [q] at h; cases h
        | some ts =>
          rw [q] at h
          cases h
          obtain ⟨g1, g2, g3⟩ := S.Ts fc hfc _ _ q
          exact s_ttup O.calm g2 g3 g1
      | Subscript o i pos =>
        cases i with
        | Slice _ _ _ _ => simp [trT] at h
        | _ =>
          simp only [trT] at h
          split at h
          · rename_i o' i' h1 h2
            cases h
            exact s_tsub O.hu (fun l u p z => by cases z) (S.E _ _ h1).1 (S.E _ _ h2).1
          · cases h
      | _ => simp [trT] at h
    case Ts =>
      intro fc hfc es ts h
      cases es with
      | nil => simp only [trTs] at h; cases h; exact ⟨s_tnil, fun e he => (by cases he), rfl⟩
      | cons e es =>
        simp only [trTs] at h
        split at h
        · rename_i t ts' h1 h2
          cases h
          obtain ⟨g1, g2, g3⟩ := S.Ts fc hfc _ _ h2
          refine ⟨s_tcons (trT_noStar h1) (S.T fc hfc _ _ h1) g1, fun x hx => ?_, by simp [g3]⟩
          rcases List.mem_cons.mp hx with z | z
          · subst z; exact trT_noStar h1
          · exact g2 x z
        · cases h
end
end Ev


set_option linter.all false
set_option maxRecDepth 100000
set_option maxHeartbeats 4000000
namespace Ev
open PySem PySem.Spec PyProof.Rows L2

/-! ### statements: from the text -/
def isComp : Expr → Bool | .ListComp .. => true | .SetComp .. => true | .DictComp .. => true | _ => false
def isTup : Expr → Bool | .Tuple .. => true | _ => false
/-- name = [..]: stored straight -/
def straight (sc : Scope) (y : Str) (py : Pos) (line : Nat) : Expr → Bool
  | .ListComp _ _ scope p => (sc.names.lookup y == some .local) && (py.line == p.line) && !(scope.names.any fun (n, k) => n == y && (k == .local || k == .cell))
  | _ => false
def ipOf : Operator → Option BOp | .Add => some .add | .Sub => some .sub | _ => none
def isName : Expr → Bool | .Name .. => true | _ => false
def parOf : Expr → Expr → Option (Str × Pos × Str × Pos × Expr × Expr)
  | .Tuple [.Name x px, .Name y py] _ _, .Tuple [a, b] _ _ => some (x, px, y, py, a, b)
  | _, _ => none
theorem parOf_eq {t e : Expr} {x y : Str} {px py : Pos} {a b : Expr} (h : parOf t e = some (x, px, y, py, a, b)) : ∃ kt pt k2 pt2, t = .Tuple [.Name x px, .Name y py] kt pt ∧ e = .Tuple [a, b] k2 pt2 := by
  unfold parOf at h
  split at h
  · cases h; exact ⟨_, _, _, _, rfl, rfl⟩
  · cases h
def parC (sc : Scope) (x : Str) (px : Pos) (y : Str) (py : Pos) (a b : Expr) : Bool :=
  (sc.names.lookup x == some .local) && (sc.names.lookup y == some .local) && (px.line == py.line) && !([a, b].all (foldedForSure 8)) && !([a, b].all (constantsAlone 8))
section
variable (G : GI) (N : List Str) (m : Nat)
def trPar (sc : Scope) (t e : Expr) : Option S :=
  match parOf t e with
  | some (x, px, y, py, a, b) => if parC sc x px y py a b then (match slotOf N x, slotOf N y, trE G N m sc a, trE G N m sc b with
      | some i, some j, some a, some b => if i = j then none else some (.par i j a b) | _, _, _, _ => none) else none
  | none => none
def trAsg (sc : Scope) (t e : Expr) : Option S := match trT G N m (fun _ => true) sc t, trE G N m sc e with | some t, some e => some (.asg t e) | _, _ => none
mutual
def trS : Nat → Scope → Stmt → Option S
  | 0, _, _ => none
  | n + 1, sc, s => match s with
    | .Assign [t] e _ => if isTup t && isTup e then trPar G N m sc t e else if isComp e && !isName t then none else trAsg G N m sc t e
    | .AugAssign (.Name x _) o e _ => if locB sc x then (match slotOf N x, ipOf o, trE G N m sc e with | some i, some o, some e => some (.aug i o e) | _, _, _ => none) else none
    | .AugAssign (.Subscript a i _) o e _ => (match ipOf o, trE G N m sc a, trE G N m sc i, trE G N m sc e with | some o, some a, some i, some e => some (.augs a i o e) | _, _, _, _ => none)
    | .Expr e _ => (match e with | .Constant (.str _) _ _ => some .pass | _ => if isComp e then none else (trE G N m sc e).map .expr)
    | .Return (some e) _ => (trE G N m sc e).map .ret
    | .Return none _ => some (.ret (.lit .non))
    | .If q a b _ => match trE G N m sc q, trSs n sc a, trSs n sc b with | some q, some a, some b => some (.if_ q a b) | _, _, _ => none
    | .For t it b [] _ => match trI G N m sc it t, trT G N m (fun _ => true) sc t, trSs n sc b with | some it, some t, some b => some (.for_ t it b) | _, _, _ => none
    | .While q b [] _ => match trE G N m sc q, trSs n sc b with | some q, some b => some (.while_ q b) | _, _ => none
    | .Pass _ => some .pass
    | .Break _ => some .brk
    | .Continue _ => some .cont
    | _ => none
def trSs : Nat → Scope → List Stmt → Option (List S)
  | 0, _, _ => none
  | _ + 1, _, [] => some []
  | n + 1, sc, s :: r => match trS n sc s, trSs n sc r with | some s, some r => some (s :: r) | _, _ => none
end
end

section
variable {c : Cfg} {G : GI} {N : List Str} {k : Nat} {X : Cx} {sc : Scope}
variable {a b d : Expr} {a' b' d' : E} {pos : Pos} {K : PySem.W.Frag} {σ : L2.St} {H : Hp}
def FS (K : PySem.W.Frag) (m : List Addr) (H : Hp) (o : Out) (D : Ends) : Prop :=
  match o with
  | .next aσ A' => ∀ m' H' σ', Tr m H m' H' → RelH K m' A' H' → RSl K H' m' aσ σ' → D.nx σ' H'
  | .brk aσ A' => ∀ m' H' σ', Tr m H m' H' → RelH K m' A' H' → RSl K H' m' aσ σ' → D.bk σ' H'
  | .cont aσ A' => ∀ m' H' σ', Tr m H m' H' → RelH K m' A' H' → RSl K H' m' aσ σ' → D.ct σ' H'
  | .ret v A' => ∀ m' H' x, Tr m H m' H' → RelH K m' A' H' → RV K H' m' v x → D.rt x H'
  | .bad => False
def rdS (K : PySem.W.Frag) (c : Cfg) (s : S) : TS := fun D σ H => ∃ m A aσ, RelH K m A H ∧ RSl K H m aσ σ ∧ FS K m H (evS c s aσ A) D
def rdSs (K : PySem.W.Frag) (c : Cfg) (s : List S) : TS := fun D σ H => ∃ m A aσ, RelH K m A H ∧ RSl K H m aσ σ ∧ FS K m H (evSs c s aσ A) D
theorem FS.shift {m m1 : List Addr} {H H1 : Hp} {o : Out} {D : Ends} (h : FS K m H o D) (t : Tr m H m1 H1) : FS K m1 H1 o D := by
  cases o with
  | bad => exact h
  | next _ _ => exact fun m' H' s t' => h m' H' s (t.trans t')
  | brk _ _ => exact fun m' H' s t' => h m' H' s (t.trans t')
  | cont _ _ => exact fun m' H' s t' => h m' H' s (t.trans t')
  | ret _ _ => exact fun m' H' s t' => h m' H' s (t.trans t')
theorem FS.out {α : Type} {m : List Addr} {H : Hp} {r : Res α} {f : α → AH → Out} {D : Ends} (h : FS K m H (r.out f) D) : FG K m H r fun a A1 m1 H1 => FS K m1 H1 (f a A1) D := by
  cases r with
  | ok a A => exact fun m' H' t' R' => FS.shift (o := f a A) h t'
  | bad => exact h
def nxt (K : PySem.W.Frag) (f : Sl → AH → Out) (D : Ends) : L2.St → Hp → Prop := fun σ' H' => ∃ m A aσ, RelH K m A H' ∧ RSl K H' m aσ σ' ∧ FS K m H' (f aσ A) D
theorem FS.seq {m : List Addr} {H : Hp} {o : Out} {f : Sl → AH → Out} {D : Ends} (h : FS K m H (o.seq f) D) : FS K m H o { D with nx := nxt K f D } := by
  cases o with
  | bad => exact h
  | next aσ A => exact fun m' H' s t' R S => ⟨m', A, aσ, R, S, FS.shift (o := f aσ A) h t'⟩
  | brk _ _ => exact h
  | cont _ _ => exact h
  | ret _ _ => exact h
theorem FS.turn {m : List Addr} {H : Hp} {o : Out} {f : Sl → AH → Out} {D : Ends} (h : FS K m H (o.turn f) D) : FS K m H o { D with nx := nxt K f D, ct := nxt K f D, bk := D.nx } := by
  cases o with
  | bad => exact h
  | next aσ A => exact fun m' H' s t' R S => ⟨m', A, aσ, R, S, FS.shift (o := f aσ A) h t'⟩
  | cont aσ A => exact fun m' H' s t' R S => ⟨m', A, aσ, R, S, FS.shift (o := f aσ A) h t'⟩
  | brk _ _ => exact h
  | ret _ _ => exact h
theorem FS.now {m : List Addr} {H : Hp} {aσ : Sl} {A : AH} {D : Ends} (h : FS K m H (.next aσ A) D) (R : RelH K m A H) (S : RSl K H m aσ σ) : D.nx σ H := h m H σ Tr.refl R S
theorem PS.mono {X : Cx} {s : Stmt} {t t' : TS} (h : PS X s t) (f : ∀ D σ H, t' D σ H → t D σ H) : PS X s t' := ⟨fun pins s σ H D I q => h.run pins s σ H D I (f D σ H q)⟩
theorem PSs.mono {X : Cx} {s : List Stmt} {t t' : TS} (h : PSs X s t) (f : ∀ D σ H, t' D σ H → t D σ H) : PSs X s t' := ⟨fun pins s σ H D I q => h.run pins s σ H D I (f D σ H q)⟩

theorem s_snil : PSs X [] (rdSs X.K c []) := PSs.mono pss_nil fun D σ H ⟨m, A, aσ, R, S, h⟩ => FS.now h R S
theorem s_scons {s : Stmt} {r : List Stmt} {s' : S} {r' : List S} (h1 : PS X s (rdS X.K c s')) (h2 : PSs X r (rdSs X.K c r')) : PSs X (s :: r) (rdSs X.K c (s' :: r')) :=
  PSs.mono (pss_cons h1 h2) fun D σ H ⟨m, A, aσ, R, S, h⟩ => ⟨m, A, aσ, R, S, FS.seq h⟩
theorem s_asg {t : Expr} {t' : T} (hs : swapsWithSole [t] a pos.line X.env = pure false) (hw : swappedStores [t] a X.env = pure none) (ns : NoStar t) (ht : PG X t (rdTg X.K c t')) (ha : PE X a (rdE X.K c a')) : PS X (.Assign [t] a pos) (rdS X.K c (.asg t' a')) :=
  PS.mono (ps_asg ha ht hs hw (by rw [assignEach_cons ns]; rfl)) fun D σ H ⟨m, A, aσ, R, S, h⟩ => ⟨m, A, aσ, R, S, FG.imp (FS.out h) fun v A1 m1 H1 t1 R1 h1 x rx =>
    ⟨m1, A1, aσ, v, R1, S.mono t1, rx, FG.imp (FS.out h1) fun aσ2 A2 m2 H2 t2 R2 h2 σ2 S2 so => FS.now h2 R2 S2⟩⟩
theorem notComp_sw {e t : Expr} {l : Nat} {env : Env} (h : isComp e = false) : swapsWithSole [t] e l env = pure false := by
  cases e <;> first | rfl | cases h
theorem notTup_ss {e t : Expr} {env : Env} (h : isTup e = false) : swappedStores [t] e env = pure none := by
  unfold swappedStores
  cases e <;> first | (simp [isTup] at h; done) | (cases t <;> rfl)
theorem notTup_ss2 {e t : Expr} {env : Env} (h : isTup t = false) (h2 : ∀ l p, t ≠ .List l p) : swappedStores [t] e env = pure none := by
  unfold swappedStores
  cases t <;> first | (simp [isTup] at h; done) | exact absurd rfl (h2 _ _) | rfl
theorem s_aug {x : Str} {i : Nat} {o : BOp} {p : Pos} (ho : o = .add ∨ o = .sub) (hN : X.N.Nodup) (hi : X.N[i]? = some x) (hx : L2.Loc X.env.scope x) (hf : X.fn x = true) (ha : PE X a (rdE X.K c a')) : PS X (.AugAssign (.Name x p) (opOf o) a pos) (rdS X.K c (.aug i o a')) := by
  have hp : PIp X (opOf o) (fun x y H Q => ∃ m A ax ay, RelH X.K m A H ∧ RV X.K H m ax x ∧ RV X.K H m ay y ∧ Fin X.K m H (aAug o ax ay A) Q) := by
    rintro pins s σ H x y v u Q I rx ry ⟨m, A, ax, ay, R, hx, hy, fin⟩
    rcases ho with rfl | rfl
    · cases hx with
      | int i =>
        cases hy with
        | int j => exact ip_add pins s σ H _ _ v u Q I rx ry ⟨i, j, rfl, rfl, Fin.here R fin (.int _)⟩
        | _ => exact False.elim fin
      | str i =>
        cases hy with
        | str j =>
          simp only [aAug] at fin
          split at fin
          · rename_i hz; exact iop_add_str pins s σ H _ _ v u Q I rx ry ⟨i, j, rfl, rfl, hz, Fin.here R fin (.str _)⟩
          · exact False.elim fin
        | _ => exact False.elim fin
      | _ => exact False.elim fin
    · cases hx with
      | int i =>
        cases hy with
        | int j => exact ip_sub pins s σ H _ _ v u Q I rx ry ⟨i, j, rfl, rfl, Fin.here R fin (.int _)⟩
        | _ => exact False.elim fin
      | _ => exact False.elim fin
  refine PS.mono (ps_aug hN hi hx ha hp (.inl hf)) fun D σ H ⟨m, A, aσ, R, S, h⟩ => ?_
  simp only [evS] at h
  cases e1 : aσ[i]? with
  | none => rw [e1] at h; exact False.elim h
  | some ov =>
    cases ov with
    | none => rw [e1] at h; exact False.elim h
    | some v =>
      rw [e1] at h
      obtain ⟨y, e2, r⟩ := S.2 i v e1
      refine ⟨y, e2, m, A, aσ, R, S, FG.imp (FS.out h) fun w A1 m1 H1 t1 R1 h1 z rz => ⟨m1, A1, v, w, R1, r.mono t1, rz, FG.imp (FS.out h1) fun u A2 m2 H2 t2 R2 h2 q rq => ?_⟩⟩
      exact FS.now h2 R2 (((S.mono t1).mono t2).set i rq)
theorem get_A : PGet X (fun o i H Q => ∃ m A ao ai v, RelH X.K m A H ∧ RV X.K H m ao o ∧ RV X.K H m ai i ∧ mthTy .append ao A = true ∧ aIx ao ai A = some v ∧ ∀ w, RV X.K H m v w → Q w H) := by
  rintro pins s σ H o i ov iv Q I ro ri ⟨m, A, ao, ai, v, R, ho, hi, ht, e, q⟩
  unfold mthTy at ht
  cases ho with
  | @ref n a hm =>
    simp only at ht
    split at ht
    · rename_i ys hA
      cases hi with
      | int k =>
        obtain ⟨zs, hH, r⟩ := R.of hm hA
        have e : L2.atI ys k = some v := by simpa [aIx, seqOf, hA] using e
        obtain ⟨w, e2, r2⟩ := r.atI e
        obtain rfl : ov = Value.ref a := ro
        obtain ⟨t, rfl⟩ := (show ∃ t, iv = Value.int k t from ri)
        obtain ⟨its, rv, pl, hz⟩ := I.list (SqL.of hH)
        obtain ⟨j, h1, h2, h3, h4, h5⟩ := atI_get e2
        obtain ⟨u, eu, ru⟩ := rv.get h2
        have hl := rv.length
        have hn := line63
        have fin : EP X pins σ Q u s := ⟨w, H, I, ru, q w r2⟩
        by_cases h0 : 0 ≤ k
        · have hj : k.toNat = j := by
            rw [seqIndex_of h0 h5] at h1
            exact Option.some.inj h1
          exact wpAny_getItem_list pl.isList h0 (by omega) (by rw [hj]; simpa using eu) fin
        · have hj : (k + (its.toArray.size : Int)).toNat = j := by
            rw [seqIndex_neg (by omega) h4] at h1
            rw [List.size_toArray, ← hl]
            exact Option.some.inj h1
          exact wpAny_getItem_list_neg pl.isList (by omega) (by rw [List.size_toArray] <;> omega) (by omega) (by rw [hj]; simpa using eu) fin
      | _ => simp [aIx, hA] at e
    · cases ht
    · cases ht
  | _ => cases ht
theorem s_augs (hu : X.A.units + 65 < cLine) {o : BOp} {p : Pos} (ho : o = .add ∨ o = .sub) (nsl : ∀ l u s p, b ≠ .Slice l u s p) (ha : PE X a (rdE X.K c a')) (hb : PE X b (rdE X.K c b')) (hd : PE X d (rdE X.K c d')) : PS X (.AugAssign (.Subscript a b p) (opOf o) d pos) (rdS X.K c (.augs a' b' o d')) := by
  have hp : PIp X (opOf o) (fun x y H Q => ∃ m A ax ay, RelH X.K m A H ∧ RV X.K H m ax x ∧ RV X.K H m ay y ∧ Fin X.K m H (aAug o ax ay A) Q) := by
    rintro pins s σ H x y v u Q I rx ry ⟨m, A, ax, ay, R, hx, hy, fin⟩
    rcases ho with rfl | rfl
    · cases hx with
      | int i =>
        cases hy with
        | int j => exact ip_add pins s σ H _ _ v u Q I rx ry ⟨i, j, rfl, rfl, Fin.here R fin (.int _)⟩
        | _ => exact False.elim fin
      | str i =>
        cases hy with
        | str j =>
          simp only [aAug] at fin
          split at fin
          · rename_i hz; exact iop_add_str pins s σ H _ _ v u Q I rx ry ⟨i, j, rfl, rfl, hz, Fin.here R fin (.str _)⟩
          · exact False.elim fin
        | _ => exact False.elim fin
      | _ => exact False.elim fin
    · cases hx with
      | int i =>
        cases hy with
        | int j => exact ip_sub pins s σ H _ _ v u Q I rx ry ⟨i, j, rfl, rfl, Fin.here R fin (.int _)⟩
        | _ => exact False.elim fin
      | _ => exact False.elim fin
  refine PS.mono (ps_augS ha hb get_A hd hp (set_A hu) (by intros; cases b <;> first | rfl | exact absurd rfl (nsl _ _ _ _))) fun D σ H ⟨m, A, aσ, R, S, h⟩ => ?_
  refine ⟨m, A, aσ, R, S, FG.imp (FS.out h) fun ov A1 m1 H1 t1 R1 h1 x rx => ⟨m1, A1, aσ, R1, S.mono t1, FG.imp (FS.out h1) fun iv A2 m2 H2 t2 R2 h2 y ry => ?_⟩⟩
  split at h2
  · rename_i hty
    cases e : aIx ov iv A2 with
    | none => rw [e] at h2; exact False.elim h2
    | some v =>
      rw [e] at h2
      refine ⟨m2, A2, ov, iv, v, R2, rx.mono t2, ry, hty, e, fun w rw' => ⟨m2, A2, aσ, R2, (S.mono t1).mono t2, FG.imp (FS.out h2) fun u A3 m3 H3 t3 R3 h3 z rz => ⟨m3, A3, v, u, R3, rw'.mono t3, rz, FG.imp (FS.out h3) fun q A4 m4 H4 t4 R4 h4 r rr => ?_⟩⟩⟩
      cases e2 : aSet ov iv q A4 with
      | none => rw [e2] at h4; exact False.elim h4
      | some A5 =>
        rw [e2] at h4
        exact ⟨m4, A4, ov, iv, q, A5, R4, ((rx.mono t2).mono t3).mono t4, (ry.mono t3).mono t4, rr, e2, fun H5 t5 R5 => h4 m4 H5 σ t5 R5 (((((S.mono t1).mono t2).mono t3).mono t4).mono t5)⟩
  · exact False.elim h2
theorem s_expr (hs : isComp a = false) (ha : PE X a (rdE X.K c a')) : PS X (.Expr a pos) (rdS X.K c (.expr a')) :=
  PS.mono (ps_expr ha (by cases a <;> first | rfl | cases hs)) fun D σ H ⟨m, A, aσ, R, S, h⟩ => ⟨m, A, aσ, R, S, FG.imp (FS.out h) fun v A1 m1 H1 t1 R1 h1 x rx => FS.now h1 R1 (S.mono t1)⟩
theorem s_ret (ha : PE X a (rdE X.K c a')) : PS X (.Return (some a) pos) (rdS X.K c (.ret a')) :=
  PS.mono (ps_ret ha) fun D σ H ⟨m, A, aσ, R, S, h⟩ => ⟨m, A, aσ, R, S, FG.imp (FS.out h) fun v A1 m1 H1 t1 R1 h1 x rx => h1 m1 H1 x Tr.refl R1 rx⟩
theorem s_retN : PS X (.Return none pos) (rdS X.K c (.ret (.lit .non))) :=
  PS.mono ps_retN fun D σ H ⟨m, A, aσ, R, S, h⟩ => h m H .non Tr.refl R .non
theorem s_if {p q : List Stmt} {p' q' : List S} (ha : PT X a (rdT X.K c a')) (hp : PSs X p (rdSs X.K c p')) (hq : PSs X q (rdSs X.K c q')) : PS X (.If a p q pos) (rdS X.K c (.if_ a' p' q')) :=
  PS.mono (ps_if ha hp hq) fun D σ H ⟨m, A, aσ, R, S, h⟩ => ⟨m, A, aσ, R, S, FG.imp (FS.out h) fun kk A1 m1 H1 t1 R1 h1 => by
    cases kk with
    | true => rw [if_pos rfl] at h1 ⊢; exact ⟨m1, A1, aσ, R1, S.mono t1, h1⟩
    | false => rw [if_neg Bool.false_ne_true] at h1 ⊢; exact ⟨m1, A1, aσ, R1, S.mono t1, h1⟩⟩
theorem s_pass : PS X (.Pass pos) (rdS X.K c .pass) := PS.mono ps_pass fun D σ H ⟨m, A, aσ, R, S, h⟩ => FS.now h R S
theorem s_doc {x j p1} : PS X (.Expr (.Constant (.str x) j p1) pos) (rdS X.K c .pass) := PS.mono ps_doc fun D σ H ⟨m, A, aσ, R, S, h⟩ => FS.now h R S
theorem s_brk : PS X (.Break pos) (rdS X.K c .brk) := PS.mono ps_break fun D σ H ⟨m, A, aσ, R, S, h⟩ => h m H σ Tr.refl R S
theorem s_cont : PS X (.Continue pos) (rdS X.K c .cont) := PS.mono ps_continue fun D σ H ⟨m, A, aσ, R, S, h⟩ => h m H σ Tr.refl R S
theorem s_while {p : List Stmt} {p' : List S} (hx : PassesOwn (model X.prog X.w) X.A X.env X.xe) (ha : PT X a (rdT X.K c a')) (hp : PSs X p (rdSs X.K c p')) : PS X (.While a p [] pos) (rdS X.K c (.while_ a' p')) := by
  refine PS.mono (ps_while hx ha hp) fun D σ H ⟨m, A, aσ, R, S, h⟩ => ?_
  refine ⟨fun n => nxt X.K (whGo (fun σ A => evT c a' σ A) (fun σ A => evSs c p' σ A) n) D, ⟨c.fuel, m, A, aσ, R, S, h⟩, fun n σ H ⟨m, A, aσ, R, S, h⟩ => ?_⟩
  cases n with
  | zero => exact False.elim h
  | succ n =>
    simp only [whGo] at h
    refine ⟨m, A, aσ, R, S, FG.imp (FS.out h) fun kk A1 m1 H1 t1 R1 h1 => ?_⟩
    cases kk with
    | true =>
      rw [if_pos rfl] at h1 ⊢
      exact ⟨_, fun σ' H' q => ⟨n, Nat.lt_succ_self n, q⟩, m1, A1, aσ, R1, S.mono t1, FS.turn h1⟩
    | false => rw [if_neg Bool.false_ne_true] at h1 ⊢; exact FS.now h1 R1 (S.mono t1)
/-- .. without a shift -/
theorem FS.out0 {α : Type} {m : List Addr} {H : Hp} {r : Res α} {f : α → AH → Out} {D : Ends} (h : FS K m H (r.out f) D) : FG K m H r fun a A1 _ _ => FS K m H (f a A1) D := by
  cases r with
  | ok a A => exact fun m' H' t' R' => h
  | bad => exact h
/-- a dict that was frozen for the walk is thawed -/
theorem thaw_tr {m m' : List Addr} {H H' : Hp} {a : Addr} {o : Obj} {ws : List (List Key × V)} (t : Tr m H m' H') (h0 : ∀ q u, H a ≠ some (.frz q u)) (e : H' a = some (.frz o (.dT ws))) : Tr m H m' (upd H' a (.dT ws)) where
  pre := t.pre
  new := t.new
  keep := fun b u h n => by
    have := t.keep b u h n
    rw [upd_ne (fun z => by rw [z, e] at this; cases this; exact h0 _ _ (z ▸ h))]; exact this
  tups := fun b u h => ⟨fun xs z => by
    have := (t.tups b u h).1 xs z
    rw [upd_ne (fun z' => by rw [z', e, z] at this; cases this)]; exact this, fun q v z => by
    have := (t.tups b u h).2 q v z
    rw [upd_ne (fun z' => h0 q v (by rw [← z', h, z]))]; exact this⟩
theorem thaw_rel {m : List Addr} {A : AH} {H : Hp} {n : Nat} {a : Addr} {o : Obj} {kvs : List (List Key × AV)} {ws : List (List Key × V)} (R : RelH K m A H) (hm : m[n]? = some a) (e : H a = some (.frz o (.dT ws))) (r : Ents K H m kvs ws) :
    Stay K m H m (upd H a (.dT ws)) ∧ RelH K m (A.set n (.dT false kvs)) (upd H a (.dT ws)) := by
  have st : Stay K m H m (upd H a (.dT ws)) := ⟨fun _ _ h => h, fun b xs h => by rw [upd_ne (fun z => by rw [z, e] at h; cases h)]; exact h, fun b xs h => by
    rcases h with ⟨q, h⟩ | h
    · exact .inl ⟨q, by rw [upd_ne (fun z => by rw [z, e] at h; cases h)]; exact h⟩
    · exact .inr h, fun b o2 xs h => by rw [upd_ne (fun z => by rw [z, e] at h; cases h)]; exact h⟩
  refine ⟨st, ⟨by rw [List.length_set]; exact R.len, R.nd, fun i b v hb hv => ?_⟩⟩
  by_cases hi : i = n
  · subst hi
    rw [hm] at hb; cases hb
    rw [List.getElem?_set_self (by rw [← R.len]; exact (List.getElem?_eq_some_iff.mp hm).1)] at hv
    cases hv
    exact ⟨ws, .inl ⟨rfl, upd_same⟩, Paired.mapP r fun p q z => ⟨z.1, z.2.mono0 st⟩⟩
  · rw [List.getElem?_set_ne (Ne.symm hi)] at hv
    refine (R.at_ i b v hb hv).mono0 st (upd_ne fun z => hi ?_)
    subst z
    have h1 := (List.getElem?_eq_some_iff.mp hb)
    have h2 := (List.getElem?_eq_some_iff.mp hm)
    exact (List.getElem_inj R.nd).mp (h1.2.trans h2.2.symm)
theorem s_for {tg iter : Expr} {p : List Stmt} {p' : List S} {t : T} {it : I} (hx : PassesOwn (model X.prog X.w) X.A X.env X.xe) (hc : X.calm = true) (ns : NoStar iter) (hi : PI X tg iter (rdI X.K c it)) (ht : PG X tg (rdTg X.K c t)) (hp : PSs X p (rdSs X.K c p')) :
    PS X (.For tg iter p [] pos) (rdS X.K c (.for_ t it p')) := by
  refine PS.mono (ps_scope (ps_for hx hc hi ht hp (folded_of ns))) fun D σ H ⟨m, A, aσ, R, S, h⟩ => ⟨m, A, aσ, R, S, FG.imp (FS.out0 h) fun itm A1 m1 H1 t1 R1 h1 J hJ hF => ?_⟩
  -- the loop's end
  have fin_ : ∀ m' A' aσ' σ' H', Tr m H m' H' → Tr m1 H1 m' H' → RelH X.K m' A' H' → RSl X.K H' m' aσ' σ' → FS X.K m H (.next aσ' (itm.fin A')) D → (thawN H D).nx σ' H' := by
    intro m' A' aσ' σ' H' tr tr1 R' S' g
    cases itm with
    | keys n own kvs =>
      cases own with
      | true =>
        obtain ⟨a, o, ws, hm, h0, e, r⟩ := hF
        have e' := (tr1.tups a _ e).2 o _ rfl
        obtain ⟨st, R2⟩ := thaw_rel R' (tr1.getM hm) e' (Paired.mapP r fun p q z => ⟨z.1, z.2.mono tr1⟩)
        exact .inr ⟨a, o, ws, h0, e', g m' _ σ' (thaw_tr tr h0 e') R2 ⟨S'.1, fun i v z => let ⟨x, h, r⟩ := S'.2 i v z; ⟨x, h, r.mono0 st⟩⟩⟩
      | false => exact .inl (g m' H' σ' tr R' S')
    | _ => exact .inl (g m' H' σ' tr R' S')
  refine ⟨fun i mm σ H' => i ≤ itm.items.length ∧ mm = itm.items.length - i ∧ ∃ m' A' aσ', Tr m H m' H' ∧ Tr m1 H1 m' H' ∧ RelH X.K m' A' H' ∧ RSl X.K H' m' aσ' σ ∧ FS X.K m H ((forGo itm.chk (fun x σ A => evTg c t x σ A) (fun σ A => evSs c p' σ A) (itm.items.drop i) aσ' A').behind itm) D,
    ⟨_, Nat.zero_le _, rfl, m1, A1, aσ, t1, Tr.refl, R1, S.mono t1, by rw [List.drop_zero]; exact h1⟩, ?_⟩
  rintro i mm σ H' ⟨hi, rfl, m', A', aσ', tr, tr1, R', S', g⟩
  by_cases hlt : i < itm.items.length
  · rw [List.drop_eq_getElem_cons hlt] at g
    simp only [forGo] at g
    split at g
    · rename_i hck
      obtain ⟨hgo, hy⟩ := (hJ i m' A' H' tr1 R' hck).1 _ (List.getElem?_eq_getElem hlt)
      refine .inr ⟨hgo, fun σ' H2 => ∃ m'' A'' aσ'', Tr m H m'' H2 ∧ Tr m1 H1 m'' H2 ∧ RelH X.K m'' A'' H2 ∧ RSl X.K H2 m'' aσ'' σ' ∧ FS X.K m H ((forGo itm.chk (fun x σ A => evTg c t x σ A) (fun σ A => evSs c p' σ A) (itm.items.drop (i + 1)) aσ'' A'').behind itm) D,
        fun σ' H' q => ⟨itm.items.length - (i + 1), by omega, hlt, rfl, q⟩, fun x H2 yl => ?_⟩
      obtain ⟨ty, R2, rx⟩ := hy x H2 yl
      cases e0 : evTg c t (itm.items[i]'hlt) aσ' A' with
      | bad => rw [e0] at g; exact False.elim g
      | ok aσ3 A3 =>
        rw [e0] at g
        refine ⟨m', A', aσ', _, R2, S'.mono ty, rx, ?_⟩
        rw [e0]
        intro m3 H3 t3 R3 σ3 S3 so
        have trC := (tr.trans ty).trans t3
        have trD := (tr1.trans ty).trans t3
        refine ⟨m3, A3, aσ3, R3, S3, ?_⟩
        change FS X.K m H (((evSs c p' aσ3 A3).turn fun σ A => forGo itm.chk (fun x σ A => evTg c t x σ A) (fun σ A => evSs c p' σ A) (itm.items.drop (i + 1)) σ A).behind itm) D at g
        cases e : evSs c p' aσ3 A3 with
        | bad => rw [e] at g; exact g
        | next aσ4 A4 => rw [e] at g; exact fun m4 H4 σ4 t4 R4 S4 => ⟨m4, A4, aσ4, trC.trans t4, trD.trans t4, R4, S4, g⟩
        | cont aσ4 A4 => rw [e] at g; exact fun m4 H4 σ4 t4 R4 S4 => ⟨m4, A4, aσ4, trC.trans t4, trD.trans t4, R4, S4, g⟩
        | brk aσ4 A4 => rw [e] at g; exact fun m4 H4 σ4 t4 R4 S4 => fin_ m4 A4 aσ4 σ4 H4 (trC.trans t4) (trD.trans t4) R4 S4 g
        | ret v A4 => rw [e] at g; exact fun m4 H4 x t4 R4 r => g m4 H4 x (trC.trans t4) R4 r
    · exact False.elim g
  · have e : i = itm.items.length := by omega
    subst e
    rw [List.drop_length] at g
    simp only [forGo] at g
    split at g
    · rename_i hck
      exact .inl ⟨(hJ _ m' A' H' tr1 R' hck).2 (Nat.le_refl _), fin_ m' A' aσ' σ H' tr tr1 R' S' g⟩
    · exact False.elim g

theorem rd_newL {l : L} {Q : VK} (h : rdE K c (.new l) σ H Q) : rdL K c l σ H Q := by
  obtain ⟨m, A, aσ, R, S, h⟩ := h
  refine ⟨m, A, aσ, R, S, ?_⟩
  simp only [evE] at h
  cases e : evL c l aσ A with
  | bad => rw [e] at h; exact False.elim h
  | ok vs A1 =>
    rw [e] at h
    intro m1 H1 t1 R1 D ys hD nD nH ry
    have st : Stay K m1 H1 (m1 ++ [D]) H1 := ⟨fun i c e => by rw [List.getElem?_append_left (List.getElem?_eq_some_iff.mp e).1]; exact e, fun _ _ e => e, fun _ _ e => e, fun _ _ _ e => e⟩
    refine h (m1 ++ [D]) H1 (t1.adopt nH) (R1.adopt nD ⟨ys, hD, RVs.mono0 st ry⟩) _ (.ref ?_)
    rw [← R1.len, List.getElem?_append_right (Nat.le_refl _)]; simp
theorem s_par {x y : Str} {i j : Nat} {px py pt : Pos} {kt k2 pt2} (hc : X.calm = true) (hN : X.N.Nodup) (hi : X.N[i]? = some x) (hj : X.N[j]? = some y) (hij : i ≠ j) (hx : X.env.scope.names.lookup x = some .local) (hy : X.env.scope.names.lookup y = some .local)
    (ns : NoStar a) (nb : NoStar b) (hw : swappedStores [.Tuple [.Name x px, .Name y py] kt pt] (.Tuple [a, b] k2 pt2) X.env = pure (some [x, y])) (ha : PE X a (rdE X.K c a')) (hb : PE X b (rdE X.K c b')) :
    PS X (.Assign [.Tuple [.Name x px, .Name y py] kt pt] (.Tuple [a, b] k2 pt2) pos) (rdS X.K c (.par i j a' b')) :=
  PS.mono (ps_par hc hN hi hj hij hx hy (pa_cons ha (pa_cons hb pa_nil (starEach_cons nb)) (starEach_cons ns)) hw) fun D σ H ⟨m, A, aσ, R, S, h⟩ =>
    ⟨m, A, aσ, R, S, FG.imp (FS.out h) fun v A1 m1 H1 t1 R1 h1 u ru => ⟨m1, A1, aσ, R1, S.mono t1, FG.imp (FS.out h1) fun w A2 m2 H2 t2 R2 h2 z rz =>
      ⟨u, z, rfl, FS.now h2 R2 ((((S.mono t1).mono t2).set i (ru.mono t2)).set j rz)⟩⟩⟩
theorem swapped_of {x y : Str} {px py pt : Pos} {kt k2 pt2} {env : Env} (hk : env.scope.kind = .function) (hx : env.scope.names.lookup x = some .local) (hy : env.scope.names.lookup y = some .local) (hl : (px.line == py.line) = true) (hxy : x ≠ y)
    (ns : NoStar a) (nb : NoStar b) (h1 : ([a, b].all (foldedForSure 8)) = false) (h2 : ([a, b].all (constantsAlone 8)) = false) :
    swappedStores [.Tuple [.Name x px, .Name y py] kt pt] (.Tuple [a, b] k2 pt2) env = pure (some [x, y]) := by
  have kx : env.kindOf x = some .local := hx
  have ky : env.kindOf y = some .local := hy
  have hb : env.blockKind = .function := by unfold Env.blockKind; rw [hk]; rfl
  have hl2 : py.line = px.line := (beq_iff_eq.mp hl).symm
  unfold swappedStores
  have hyx : (y == x) = false := beq_eq_false_iff_ne.mpr (Ne.symm hxy)
  simp [hb, kx, ky, hl2, h1, h2, Expr.pos, List.eraseDups_cons, hyx]
  rintro (h | h)
  · split at h
    · exact absurd rfl (ns.1 _ _)
    · cases h
  · split at h
    · exact absurd rfl (nb.1 _ _)
    · cases h
theorem swaps_comp {elt : Expr} {gs : List Comprehension} {scope : Scope} {p py : Pos} {y : Str} {l : Nat} {env : Env} (hk : env.scope.kind = .function) :
    swapsWith (.ListComp elt gs scope p) (some (.Name y py)) l env = pure (straight env.scope y py l (.ListComp elt gs scope p)) := by
  have hb : env.blockKind = .function := by unfold Env.blockKind; rw [hk]; rfl
  unfold swapsWith straight
  simp [hb, Env.kindOf, Expr.pos]

/-! ### statements: all -/
theorem trT_notList {n : Nat} {fc : Str → Bool} {e : Expr} {t : T} (h : trT G N n fc sc e = some t) : ∀ l p, e ≠ .List l p := fun l p z => by
  subst z
  cases n with
  | zero => simp [trT] at h
  | succ n => simp [trT] at h
theorem ipOf_ok {o : Operator} {b : BOp} (h : ipOf o = some b) : opOf b = o ∧ (b = .add ∨ b = .sub) := by cases o <;> simp [ipOf] at h <;> subst h <;> simp [opOf]
theorem noStarB {e : Expr} {n : Nat} {e' : E} (h : trE G N n sc e = some e') : NoStar e := trE_noStar h
structure StOk (c : Cfg) (G : GI) (N : List Str) (k : Nat) (X : Cx) (sc : Scope) : Prop extends CxOk c G N k X sc where
  kind : X.env.scope.kind = .function
  fnAll : ∀ x, X.fn x = true
  pas : PassesOwn (model X.prog X.w) X.A X.env X.xe
theorem snd_S (O : StOk c G N k X sc) (m : Nat) : ∀ n, (∀ s s', trS G N m n sc s = some s' → PS X s (rdS X.K c s')) ∧ (∀ ss ss', trSs G N m n sc ss = some ss' → PSs X ss (rdSs X.K c ss')) := by
  have Z := snd (c := c) (G := G) (N := N) (k := k) m X sc O.toCxOk
  have fa : ∀ x, (fun _ : Str => true) x = true → X.fn x = true := fun x _ => O.fnAll x
  intro n
  induction n with
  | zero => exact ⟨fun s s' h => by simp [trS] at h, fun s s' h => by simp [trSs] at h⟩
  | succ n ih =>
    refine ⟨fun s s' h => ?_, fun ss ss' h => ?_⟩
    · cases s with
      | Assign ts e pos =>
        cases ts with
        | nil => simp [trS] at h
        | cons t r =>
          cases r with
          | cons _ _ => simp [trS] at h
          | nil =>
            simp only [trS] at h
            split at h
            · rename_i hz
              unfold trPar at h
              split at h
              · rename_i x px y py a b hp
                obtain ⟨kt, pt, k2, pt2, rfl, rfl⟩ := parOf_eq hp
                split at h
                · rename_i hq
                  unfold parC at hq
                  simp only [Bool.and_eq_true, beq_iff_eq, Bool.not_eq_true'] at hq
                  obtain ⟨⟨⟨⟨q1, q2⟩, q3⟩, q6⟩, q7⟩ := hq
                  split at h
                  · rename_i i j a' b' h1 h2 h3 h4
                    split at h
                    · cases h
                    · rename_i hij
                      cases h
                      have hx : X.env.scope.names.lookup x = some .local := by rw [O.sc]; exact q1
                      have hy : X.env.scope.names.lookup y = some .local := by rw [O.sc]; exact q2
                      have hi : X.N[i]? = some x := by rw [O.N]; exact slotOf_get h1
                      have hj : X.N[j]? = some y := by rw [O.N]; exact slotOf_get h2
                      refine s_par O.calm O.nd hi hj hij hx hy (trE_noStar h3) (trE_noStar h4) (swapped_of O.kind hx hy (beq_iff_eq.mpr q3) (fun z => hij ?_) (trE_noStar h3) (trE_noStar h4) q6 q7) (Z.E _ _ h3).1 (Z.E _ _ h4).1
                      subst z
                      exact nodup_ix O.nd hi hj
                  · cases h
                · cases h
              · cases h
            · rename_i hz
              split at h
              · cases h
              · rename_i hcomp
                unfold trAsg at h
                split at h
                · rename_i t' e' h1 h2
                  cases h
                  have pt := Z.T _ fa _ _ h1
                  have pe := (Z.E _ _ h2).1
                  have hw : swappedStores [t] e X.env = pure none := by
                    simp only [Bool.and_eq_true, not_and, Bool.not_eq_true] at hz
                    by_cases ht : isTup t = true
                    · exact notTup_ss (hz ht)
                    · exact notTup_ss2 (by simpa using ht) (trT_notList h1)
                  by_cases hc : isComp e = true
                  · -- a comprehension to a name
                    have hn : isName t = true := by
                      rw [hc] at hcomp
                      simpa using hcomp
                    cases t with
                    | Name y py =>
                      cases e with
                      | ListComp elt gs scope p =>
                        have hk : X.env.scope.kind = .function := O.kind
                        by_cases hst : straight X.env.scope y py pos.line (.ListComp elt gs scope p) = true
                        · have hyl : X.env.scope.names.lookup y = some .local := by
                            unfold straight at hst
                            simp only [Bool.and_eq_true, beq_iff_eq] at hst
                            exact hst.1.1
                          cases m with
                          | zero => simp [trE] at h2
                          | succ m' =>
                            simp only [trE] at h2
                            cases q : trL G N m' sc (.ListComp elt gs scope p) with
                            | none => rw [q] at h2; cases h2
                            | some l =>
                              rw [q] at h2
                              cases h2
                              obtain ⟨tg, iter, ifs, own, wi, g, tt, te, e1, pi, ok, pg, pts, pe', fo, rd⟩ := (snd (c := c) (G := G) (N := N) (k := k) m' X sc O.toCxOk).Lc _ _ _ _ _ q
                              subst e1
                              simp only [trT] at h1
                              split at h1
                              · cases q2 : slotOf N y with
                                | none => rw [q2] at h1; cases h1
                                | some i =>
                                  rw [q2] at h1
                                  cases h1
                                  refine PS.mono (ps_setLc (i := i) O.calm O.nd (by rw [O.N]; exact slotOf_get q2) hyl (by rw [swaps_comp hk, hst]) pi ok pg pts pe' fo) fun D σ H ⟨m, A, aσ, R, S, h⟩ => ?_
                                  refine rd _ _ _ (rd_newL ⟨m, A, aσ, R, S, FG.imp (FS.out h) fun v A1 m1 H1 t1 R1 h1 x rx => ?_⟩)
                                  exact FS.now h1 R1 ((S.mono t1).set i rx)
                              · cases h1
                        · refine s_asg ?_ hw (trT_noStar h1) pt pe
                          simp only [swapsWithSole]
                          rw [swaps_comp hk]
                          simp only [Bool.not_eq_true] at hst
                          rw [hst]
                      | SetComp _ _ _ _ => exfalso; cases m <;> simp [trE] at h2
                      | DictComp _ _ _ _ _ => exfalso; cases m <;> simp [trE] at h2
                      | _ => simp [isComp] at hc
                    | _ => simp [isName] at hn
                  · exact s_asg (notComp_sw (by simpa using hc)) hw (trT_noStar h1) pt pe
                · cases h
      | AugAssign t o e pos =>
        cases t with
        | Name x p =>
          simp only [trS] at h
          split at h
          · rename_i hl
            split at h
            · rename_i i o' e' h1 h2 h3
              cases h
              obtain ⟨e1, e2⟩ := ipOf_ok h2
              rw [← e1]
              exact s_aug e2 O.nd (by rw [O.N]; exact slotOf_get h1) (by rw [O.sc]; exact loc_of hl) (O.fnAll x) (Z.E _ _ h3).1
            · cases h
          · cases h
        | Subscript a i p =>
          simp only [trS] at h
          split at h
          · rename_i o' a' i' e' h1 h2 h3 h4
            cases h
            obtain ⟨e1, e2⟩ := ipOf_ok h1
            rw [← e1]
            exact s_augs O.hu e2 (trE_notSlice h3) (Z.E _ _ h2).1 (Z.E _ _ h3).1 (Z.E _ _ h4).1
          · cases h
        | _ => simp [trS] at h
      | Expr e pos =>
        simp only [trS] at h
        split at h
        · cases h; exact s_doc
        · split at h
          · cases h
          · rename_i hc
            cases q : trE G N m sc e with
            | none => rw [q] at h; cases h
            | some e' => rw [q] at h; cases h; exact s_expr (by simpa using hc) (Z.E _ _ q).1
      | Return e pos =>
        cases e with
        | none => simp only [trS] at h; cases h; exact s_retN
        | some e =>
          simp only [trS] at h
          cases q : trE G N m sc e with
          | none => rw [q] at h; cases h
          | some e' => rw [q] at h; cases h; exact s_ret (Z.E _ _ q).1
      | If q a b pos =>
        simp only [trS] at h
        split at h
        · rename_i q' a' b' h1 h2 h3
          cases h
          exact s_if (Z.E _ _ h1).2 (ih.2 _ _ h2) (ih.2 _ _ h3)
        · cases h
      | For t it b e pos =>
        cases e with
        | cons _ _ => simp [trS] at h
        | nil =>
          simp only [trS] at h
          split at h
          · rename_i it' t' b' h1 h2 h3
            cases h
            obtain ⟨g1, g2⟩ := Z.I _ _ _ h1
            exact s_for O.pas O.calm g2 g1 (Z.T _ fa _ _ h2) (ih.2 _ _ h3)
          · cases h
      | While q b e pos =>
        cases e with
        | cons _ _ => simp [trS] at h
        | nil =>
          simp only [trS] at h
          split at h
          · rename_i q' b' h1 h2
            cases h
            exact s_while O.pas (Z.E _ _ h1).2 (ih.2 _ _ h2)
          · cases h
      | Pass pos => simp only [trS] at h; cases h; exact s_pass
      | Break pos => simp only [trS] at h; cases h; exact s_brk
      | Continue pos => simp only [trS] at h; cases h; exact s_cont
      | _ => simp [trS] at h
    · cases ss with
      | nil => simp only [trSs] at h; cases h; exact s_snil
      | cons s r =>
        simp only [trSs] at h
        split at h
        · rename_i s' r' h1 h2
          cases h
          exact s_scons (ih.1 _ _ h1) (ih.2 _ _ h2)
        · cases h
end
end Ev


set_option linter.all false
set_option maxRecDepth 100000
set_option maxHeartbeats 1000000
namespace Ev
open PySem PySem.Spec PyProof.Rows L2

/-! ### the defs of a text, all together -/
structure Ent where
  x : Str
  N : List Str
  ps : List Str
  dfs : List (List AV)
  fu : Nat
  gu : Nat
  body : List S
def getF (T : List Ent) (x : Str) : Option Ent := T.find? fun e => e.x == x
def progOf (T : List Ent) : Str → Option FnD := fun x => (getF T x).map fun e => ⟨e.ps.length, e.N.length, e.body⟩
def giOf (T : List Ent) (gl : Str → Option AV) (gcd : Bool) (pts : Bool := false) : GI := ⟨fun x => (getF T x).map fun e => ⟨e.ps.length, e.dfs⟩, gl, gcd, pts⟩
structure EntFn (K : PySem.W.Frag) (G : GI) (e : Ent) (f : Addr) (fd : FuncData) : Prop where
  ex : ∃ st dvs kws, FunD K e.x e.x (defArgs st) (defBody st) (defScope st) dvs kws f fd ∧ FnScope e.N e.ps (defScope st) ∧ trSs G e.N e.fu e.gu (defScope st) (defBody st) = some e.body
  kp : PySem.W.keepIn K (.ref f) = true
structure EntOk (K : PySem.W.Frag) (mg : Str → Option Value) (G : GI) (e : Ent) : Prop where
  ex : ∃ f fd, EntFn K G e f fd ∧ mg e.x = some (.ref f) ∧ ∀ d ∈ e.dfs, ∃ dvs ds, Binds K fd e.ps ds ∧ Vals dvs ds ∧ ∀ H m, RVs K H m d dvs
theorem getF_x {T : List Ent} {x : Str} {e : Ent} (h : getF T x = some e) : e ∈ T ∧ e.x = x := by
  unfold getF at h
  exact ⟨List.mem_of_find?_eq_some h, by simpa using List.find?_some h⟩
section
variable {T : List Ent} {gl : Str → Option AV} {gcd : Bool} {fuel : Nat} {P : Program} {w : World} {K : PySem.W.Frag} {mg : Str → Option Value} {base : Heap}
theorem start_rsl {H : Hp} {m : List Addr} {N ps : List Str} {axs : List AV} {vs : List V} (r : RVs K H m axs vs) (hl : axs.length = ps.length) : RSl K H m (axs.map some ++ List.replicate (N.length - ps.length) none) (L2.start N vs) := by
  have h2 := r.length
  unfold L2.start
  rw [← h2, hl]
  refine ⟨by simp [h2], fun i v e => ?_⟩
  by_cases hi : i < axs.length
  · rw [List.getElem?_append_left (by simpa using hi), List.getElem?_map] at e
    obtain ⟨a, h3, h4⟩ := Option.map_eq_some_iff.mp e
    cases h4
    obtain ⟨y, h5, h6⟩ := r.get h3
    exact ⟨y, by rw [List.getElem?_append_left (by rw [List.length_map]; omega), List.getElem?_map, h5]; rfl, h6⟩
  · rw [List.getElem?_append_right (by simpa using hi), List.getElem?_replicate] at e
    split at e <;> cases e
theorem fn_all {pts : Bool} (hT : ∀ e ∈ T, EntOk K mg (giOf T gl gcd pts) e) (blt : ∀ x, isBlt x = true → mg x = none) (hg : gcd = true → mg "gcd" = some (.builtin "math.gcd"))
    (hc : ∀ x v, gl x = some v → ∃ u w, mg x = some u ∧ RelV w u ∧ ∀ H m, RV K H m v w) :
    ∀ k x e, getF T x = some e → ∀ f fd, EntFn K (giOf T gl gcd pts) e f fd → FnOk P w K mg base CX0 k f fd e.ps (spEv K ⟨run (progOf T) gl fuel k, gl, fuel⟩ x) := by
  intro k
  induction k with
  | zero =>
    intro x e he f fd F
    exact ⟨fun vs H Q E ⟨m, A, axs, R, r, h⟩ => False.elim h, fun A outer s H args us vs Q E _ _ _ _ ⟨m, A', axs, R, r, h⟩ => False.elim h⟩
  | succ k ih =>
    intro x e he f fd ⟨⟨st, dvs, kws, F, S, ht⟩, kp⟩
    have key : ∀ axs A, run (progOf T) gl fuel (k + 1) x axs A = if axs.length = e.ps.length then (match evSs ⟨run (progOf T) gl fuel k, gl, fuel⟩ e.body (axs.map some ++ List.replicate (e.N.length - e.ps.length) none) A with
      | .next _ A => .ok .non A | .ret v A => .ok v A | _ => .bad) else .bad := fun axs A => by
      have : progOf T x = some ⟨e.ps.length, e.N.length, e.body⟩ := by unfold progOf; rw [he]; rfl
      simp only [run, this]
      all_goals (split <;> rfl)
    refine F.ok S (fun vs H Q E ⟨m, A, axs, R, r, h⟩ => ?_) (fun cdv A outer s H vs Q E hr ⟨m, A', axs, R, r, h⟩ => ?_)
    · show vs.length = e.ps.length
      rw [← r.length]
      simp only [key] at h
      split at h
      · rename_i q; exact q
      · exact False.elim h
    · simp only [key] at h
      split at h
      · rename_i hl
        refine ⟨rdSs K ⟨run (progOf T) gl fuel k, gl, fuel⟩ e.body, ?_, m, A', _, R, start_rsl r hl, ?_⟩
        · have O : StOk ⟨run (progOf T) gl fuel k, gl, fuel⟩ (giOf T gl gcd pts) e.N k (cxOf CX0 P w K mg base e.N e.x (defScope st) f cdv A outer s H E).nox (defScope st) :=
            { sc := rfl, N := rfl, nd := S.nd, calm := rfl, room := hr, blt := blt, gcd := hg,
              con := fun x hx => by
                obtain ⟨v, hv⟩ := Option.isSome_iff_exists.mp hx
                obtain ⟨u, w, h1, h2, h3⟩ := hc x v hv
                exact ⟨v, u, w, hv, h1, h2, h3⟩
              fn := fun y fi hy => by
                obtain ⟨e2, h1, h2⟩ := Option.map_eq_some_iff.mp (show (getF T y).map _ = some fi from hy)
                subst h2
                obtain ⟨f2, fd2, h3, h4, h5⟩ := (hT e2 (getF_x h1).1).ex
                refine ⟨f2, fd2, e2.ps, ?_, h3.kp, ih y e2 h1 f2 fd2 h3, h5⟩
                rw [← (getF_x h1).2]
                exact h4
              kind := S.kind, fnAll := fun _ => rfl, pas := PassesOwn.never }
          exact ((snd_S O e.fu e.gu).2 _ _ ht).nox
        · cases q : evSs ⟨run (progOf T) gl fuel k, gl, fuel⟩ e.body (axs.map some ++ List.replicate (e.N.length - e.ps.length) none) A' with
          | bad => rw [q] at h; exact False.elim h
          | brk _ _ => rw [q] at h; exact False.elim h
          | cont _ _ => rw [q] at h; exact False.elim h
          | next aσ A2 => rw [q] at h; exact fun m' H' σ' t R' S' => h m' H' t R' _ .non
          | ret v A2 => rw [q] at h; exact fun m' H' x t R' r' => h m' H' t R' x r'
      · exact False.elim h
/-- the law's own head -/
theorem law_sp {H : Hp} {a : Addr} {ns : List Int} {k : Nat} (hO : Only H) (hS : SqL K H a (ns.map V.int)) {A' : AH}
    (h : run (progOf T) gl fuel k "law" [.fl (ns.map AV.int)] [] = .ok (.bl true) A') : spEv K ⟨run (progOf T) gl fuel k, gl, fuel⟩ "law" [.ref a] H (fun v _ => v = .bl true) fun _ _ _ => False := by
  refine ⟨[], [], [.fl (ns.map AV.int)], ⟨rfl, List.nodup_nil, fun n a o h => by simp at h⟩, .cons (.fl (ys := ns.map V.int) ?_ ?_) .nil, ?_⟩
  · rcases hS with (h | ⟨o, h⟩) | h
    · rcases hO a with h2 | ⟨o, xs, h2⟩
      · rw [h] at h2; cases h2
      · rw [h] at h2; cases h2
    · exact .inl ⟨o, h⟩
    · exact .inr h
  · clear h hS
    induction ns with
    | nil => exact .nil
    | cons n r ih => exact .cons (.int n) ih
  · show Fin K [] H (run (progOf T) gl fuel k "law" [.fl (ns.map AV.int)] []) _
    rw [h]
    intro m' H' _ _ x rx
    cases rx
    rfl

theorem _root_.L2.Fun.toD {x : Str} {st : Stmt} {f : Addr} {fd : FuncData} (F : Fun K x x st f fd) : FunD K x x (defArgs st) (defBody st) (defScope st) [] [] f fd := by
  obtain ⟨⟨oc, od, kV, doc, pm, an, cdv, ct, osl, e, l, c⟩, kp⟩ := F
  exact ⟨⟨oc, od, .none, kV, doc, pm, an, cdv, ct, osl, e, l, c, .inl ⟨rfl, rfl⟩, .inl rfl⟩, kp⟩
theorem ent_mk {gl : Str → Option AV} {G : GI} {h : Heap} {e : Ent} {x : Str} {st : Stmt} (hx : e.x = x) {f : Addr} {oc : Value} {od an : Option Addr} {osl : Array (Option Value)} {kV doc pm cdv ct : Value} (X : K.In h) (Gh : h.Ns mainGlobals mg)
    (a : PySem.W.nsIn K mainGlobals x = some (some (.ref f))) (l : K.lookup f = some ⟨oc, od, .func (PySem.W.fnOf x x (defArgs st) (defBody st) (defScope st) .none kV doc pm an cdv ct), osl⟩) (c : PySem.W.codeIn K cdv x = true) (kp : PySem.W.keepIn K (.ref f) = true)
    (S : FnScope e.N e.ps (defScope st)) (t : trSs G e.N e.fu e.gu (defScope st) (defBody st) = some e.body) (hd : e.dfs = [[]])
    (b : ∀ (kV doc pm : Value) (an : Option Addr) (cdv ct : Value) (us : List Value), us.length = e.ps.length → bindArgs (PySem.W.fnOf x x (defArgs st) (defBody st) (defScope st) .none kV doc pm an cdv ct) ⟨us, []⟩ = pure (e.ps.zip us)) : EntOk K mg G e := by
  subst hx
  have F := fun_mk (st := st) l c kp
  exact ⟨f, _, ⟨⟨st, [], [], F.toD, S, t⟩, kp⟩, PySem.W.mg_of X Gh a, fun d hd' => by
    rw [hd] at hd'
    rw [List.mem_singleton.mp hd']
    exact ⟨[], [], F.binds b, .nil, fun H m => .nil⟩⟩
/-- a def whose last parameter has a default; it is called with it and without it -/
theorem ent_mk1 {gl : Str → Option AV} {G : GI} {h : Heap} {e : Ent} {x : Str} {st : Stmt} (hx : e.x = x) {f T : Addr} {oc : Value} {od an : Option Addr} {osl : Array (Option Value)} {kV doc pm cdv ct : Value} {o : Obj} {u : Value} {n : Nat} (av : AV) (v : V) (X : K.In h) (Gh : h.Ns mainGlobals mg)
    (a : PySem.W.nsIn K mainGlobals x = some (some (.ref f))) (l : K.lookup f = some ⟨oc, od, .func (PySem.W.fnOf x x (defArgs st) (defBody st) (defScope st) (.ref T) kV doc pm an cdv ct), osl⟩) (c : PySem.W.codeIn K cdv x = true) (kp : PySem.W.keepIn K (.ref f) = true)
    (lT : K.lookup T = some o) (oT : o.data = .seq #[u] n) (r : RelV v u) (ra : ∀ H m, RV K H m av v) (S : FnScope e.N e.ps (defScope st)) (t : trSs G e.N e.fu e.gu (defScope st) (defBody st) = some e.body) (hd : e.dfs = [[av], []]) (hp : e.ps ≠ [])
    (b1 : ∀ (T : Addr) (kV doc pm : Value) (an : Option Addr) (cdv ct : Value) (us its : List Value), us.length = e.ps.length - 1 → its.length = 1 →
      ∃ k, bindArgs (PySem.W.fnOf x x (defArgs st) (defBody st) (defScope st) (.ref T) kV doc pm an cdv ct) ⟨us, []⟩ = seqItems? (.ref T) >>= k ∧ k (some its.toArray) = pure (e.ps.zip (us ++ its.drop 0)))
    (b0 : ∀ (T : Addr) (kV doc pm : Value) (an : Option Addr) (cdv ct : Value) (us its : List Value), us.length = e.ps.length → its.length = 1 →
      ∃ k, bindArgs (PySem.W.fnOf x x (defArgs st) (defBody st) (defScope st) (.ref T) kV doc pm an cdv ct) ⟨us, []⟩ = seqItems? (.ref T) >>= k ∧ k (some its.toArray) = pure (e.ps.zip (us ++ its.drop 1))) : EntOk K mg G e := by
  subst hx
  have F : FunD K e.x e.x (defArgs st) (defBody st) (defScope st) [v] [] f (PySem.W.fnOf e.x e.x (defArgs st) (defBody st) (defScope st) (.ref T) kV doc pm an cdv ct) :=
    ⟨⟨oc, od, .ref T, kV, doc, pm, an, cdv, ct, osl, rfl, l, c, .inr ⟨by simp, T, o, [u], n, rfl, lT, oT, .cons r .nil⟩, .inl rfl⟩, kp⟩
  have hpl : 0 < e.ps.length := List.length_pos_iff.mpr hp
  refine ⟨f, _, ⟨⟨st, [v], [], F, S, t⟩, kp⟩, PySem.W.mg_of X Gh a, fun d hd' => ?_⟩
  rw [hd] at hd'
  rcases List.mem_cons.mp hd' with e1 | e1
  · subst e1
    obtain ⟨ds, h1, h2⟩ := F.binds1 (ps := e.ps) (e.ps.length - 1) 0 (by simp) (by simp; omega) b1
    exact ⟨[v], ds, h2, h1, fun H m => .cons (ra H m) .nil⟩
  · rw [List.mem_singleton.mp e1]
    obtain ⟨ds, h1, h2⟩ := F.binds1 (ps := e.ps) e.ps.length 1 (by simp) (by simp) b0
    exact ⟨[], ds, h2, h1, fun H m => .nil⟩
abbrev EntAt {K : PySem.W.Frag} {h : Heap} (_ : K.In h) (mg : Str → Option Value) (G : GI) (e : Ent) : Prop := EntOk K mg G e
abbrev ConAt {K : PySem.W.Frag} {h : Heap} (_ : K.In h) (mg : Str → Option Value) (x : Str) (v : AV) : Prop := ∃ u w, mg x = some u ∧ RelV w u ∧ ∀ H m, RV K H m v w
theorem con_int {h : Heap} {x : Str} {i : Int} {t : Tok} (X : K.In h) (Gh : h.Ns mainGlobals mg) (a : PySem.W.nsIn K mainGlobals x = some (some (.int i t))) : ConAt X mg x (.int i) :=
  ⟨_, .int i, PySem.W.mg_of X Gh a, ⟨_, rfl⟩, fun _ _ => .int _⟩
def bltL : List Str := ["isinstance", "len", "abs", "int", "bool", "str", "tuple", "list", "dict", "sum", "all", "any", "max", "min", "range", "zip", "sorted", "reversed", "enumerate"]
theorem blt_of (h : ∀ x ∈ bltL, mg x = none) : ∀ x, isBlt x = true → mg x = none := fun x hx => h x (List.contains_iff_mem.mp hx)
theorem all0 {q : Str → Prop} : ∀ x ∈ ([] : List Str), q x := fun _ h => by cases h
theorem all1 {q : Str → Prop} {y : Str} {l : List Str} (a : q y) (b : ∀ x ∈ l, q x) : ∀ x ∈ y :: l, q x := List.forall_mem_cons.mpr ⟨a, b⟩
theorem ents0 {q : Ent → Prop} : ∀ x ∈ ([] : List Ent), q x := fun _ h => by cases h
theorem ents1 {q : Ent → Prop} {y : Ent} {l : List Ent} (a : q y) (b : ∀ x ∈ l, q x) : ∀ x ∈ y :: l, q x := List.forall_mem_cons.mpr ⟨a, b⟩

/-- the law's def, and all of it -/
theorem law_F {pts : Bool} {h : Heap} {e : Ent} {st : Stmt} {k : Nat} {fa f : Addr} {lw p : Str} {oc : Value} {od an : Option Addr} {osl : Array (Option Value)} {kV doc pm cdv ct : Value} (X : K.In h) (Gh : h.Ns mainGlobals mg) (hfa : mg lw = some (.ref fa)) (hx : e.x = lw) (hp : e.ps = [p])
    (a : PySem.W.nsIn K mainGlobals lw = some (some (.ref f))) (l : K.lookup f = some ⟨oc, od, .func (PySem.W.fnOf lw lw (defArgs st) (defBody st) (defScope st) .none kV doc pm an cdv ct), osl⟩) (c : PySem.W.codeIn K cdv lw = true) (kp : PySem.W.keepIn K (.ref f) = true)
    (S : FnScope e.N e.ps (defScope st)) (t : trSs (giOf T gl gcd pts) e.N e.fu e.gu (defScope st) (defBody st) = some e.body)
    (b : ∀ (kV doc pm : Value) (an : Option Addr) (cdv ct : Value) (u : Value), bindArgs (PySem.W.fnOf lw lw (defArgs st) (defBody st) (defScope st) .none kV doc pm an cdv ct) ⟨[u], []⟩ = pure [(p, u)])
    (hT : EntOk K mg (giOf T gl gcd pts) e → ∀ e ∈ T, EntOk K mg (giOf T gl gcd pts) e) (blt : ∀ x, isBlt x = true → mg x = none) (hg : gcd = true → mg "gcd" = some (.builtin "math.gcd"))
    (hc : ∀ x v, gl x = some v → ∃ u w, mg x = some u ∧ RelV w u ∧ ∀ H m, RV K H m v w) (he : getF T lw = some e) (hd : e.dfs = [[]]) :
    ∃ fd : FuncData, (∀ (s : Shared) (u : Value), BindsTo s fd ⟨[u], []⟩ [(p, u)]) ∧ ∀ base : Heap, K.In base → base.Ns mainGlobals mg → FnOk P w K mg base CX0 k fa fd [p] (spEv K ⟨run (progOf T) gl fuel k, gl, fuel⟩ lw) := by
  have e1 := hfa.symm.trans (PySem.W.mg_of X Gh a)
  cases e1
  have F := fun_mk (st := st) l c kp
  have hE : EntFn K (giOf T gl gcd pts) e fa _ := ⟨⟨st, [], [], by rw [hx]; exact F.toD, S, t⟩, kp⟩
  have hb : Binds K (PySem.W.fnOf lw lw (defArgs st) (defBody st) (defScope st) .none kV doc pm an cdv ct) e.ps [] := F.binds fun kV doc pm an cdv ct us hl => by
    rw [hp] at hl ⊢
    cases us with
    | nil => cases hl
    | cons u r => cases r with
      | nil => exact b kV doc pm an cdv ct u
      | cons _ _ => cases hl
  refine ⟨_, fun s u => .of_eq (b kV doc pm an cdv ct u), fun base _ _ => ?_⟩
  have := fn_all (P := P) (w := w) (base := base) (fuel := fuel) (hT ⟨fa, _, hE, by rw [hx]; exact PySem.W.mg_of X Gh a, fun d hd' => by
    rw [hd] at hd'
    rw [List.mem_singleton.mp hd']
    exact ⟨[], [], hb, .nil, fun H m => .nil⟩⟩) blt hg hc k lw e he fa _ hE
  rw [hp] at this
  exact this
end
end Ev


set_option linter.all false
set_option maxRecDepth 100000
namespace Ev
open PySem L2

/-! ### reckoning with the evaluator: what comes next is a word of its own, so that simp looks at what runs first alone -/
def Out.fin : Out → Res AV
  | .next _ A => .ok .non A | .ret v A => .ok v A | _ => .bad
section
variable {α β : Type}
@[simp] theorem bind_ok (a : α) (A : AH) (f : α → AH → Res β) : (Res.ok a A).bind f = f a A := id rfl
@[simp] theorem bind_bad (f : α → AH → Res β) : (Res.bad : Res α).bind f = .bad := id rfl
@[simp] theorem out_ok (a : α) (A : AH) (f : α → AH → Out) : (Res.ok a A).out f = f a A := id rfl
@[simp] theorem out_bad (f : α → AH → Out) : (Res.bad : Res α).out f = .bad := id rfl
@[simp] theorem seq_next (σ : Sl) (A : AH) (f : Sl → AH → Out) : (Out.next σ A).seq f = f σ A := id rfl
@[simp] theorem seq_ret (v : AV) (A : AH) (f : Sl → AH → Out) : (Out.ret v A).seq f = .ret v A := id rfl
@[simp] theorem seq_brk (σ : Sl) (A : AH) (f : Sl → AH → Out) : (Out.brk σ A).seq f = .brk σ A := id rfl
@[simp] theorem seq_cont (σ : Sl) (A : AH) (f : Sl → AH → Out) : (Out.cont σ A).seq f = .cont σ A := id rfl
@[simp] theorem turn_next (σ : Sl) (A : AH) (f : Sl → AH → Out) : (Out.next σ A).turn f = f σ A := id rfl
@[simp] theorem turn_ret (v : AV) (A : AH) (f : Sl → AH → Out) : (Out.ret v A).turn f = .ret v A := id rfl
@[simp] theorem turn_brk (σ : Sl) (A : AH) (f : Sl → AH → Out) : (Out.brk σ A).turn f = .next σ A := id rfl
@[simp] theorem turn_cont (σ : Sl) (A : AH) (f : Sl → AH → Out) : (Out.cont σ A).turn f = f σ A := id rfl
@[simp] theorem bind_if (p : Prop) [Decidable p] (r s : Res α) (f : α → AH → Res β) : (if p then r else s).bind f = if p then r.bind f else s.bind f := by split <;> rfl
@[simp] theorem out_if (p : Prop) [Decidable p] (r s : Res α) (f : α → AH → Out) : (if p then r else s).out f = if p then r.out f else s.out f := by split <;> rfl
@[simp] theorem seq_if (p : Prop) [Decidable p] (r s : Out) (f : Sl → AH → Out) : (if p then r else s).seq f = if p then r.seq f else s.seq f := by split <;> rfl
@[simp] theorem fin_if (p : Prop) [Decidable p] (r s : Out) : (if p then r else s).fin = if p then r.fin else s.fin := by split <;> rfl
end
@[simp] theorem behind_val (o : Out) (xs : List AV) : o.behind (.val xs) = o := by cases o <;> rfl
@[simp] theorem behind_obj (o : Out) (n : Nat) (xs : List AV) : o.behind (.obj n xs) = o := by cases o <;> rfl
@[simp] theorem behind_two (o : Out) (l r : Itm) : o.behind (.two l r) = o := by cases o <;> rfl
noncomputable section
variable (c : Cfg)
def kBin (o : BOp) (b : E) (σ : Sl) (x : AV) (A : AH) : Res AV := (evE c b σ A).bind (aBin o x)
@[simp] theorem kBin_eq (o : BOp) (b : E) (σ : Sl) (x : AV) (A : AH) : kBin c o b σ x A = (evE c b σ A).bind (aBin o x) := id rfl
@[simp] theorem evE_bin (σ : Sl) (A : AH) (o : BOp) (a b : E) : evE c (.bin o a b) σ A = (evE c a σ A).bind (kBin c o b σ) := id rfl
def kCmp2 (o : COp) (x : AV) (y : AV) (A : AH) : Res AV := match aCmp o x y A with | some k => .ok (.bl k) A | none => .bad
@[simp] theorem kCmp2_eq (o : COp) (x : AV) (y : AV) (A : AH) : kCmp2 o x y A = match aCmp o x y A with | some k => .ok (.bl k) A | none => .bad := id rfl
def kCmp (o : COp) (b : E) (σ : Sl) (x : AV) (A : AH) : Res AV := (evE c b σ A).bind (kCmp2 o x)
@[simp] theorem kCmp_eq (o : COp) (b : E) (σ : Sl) (x : AV) (A : AH) : kCmp c o b σ x A = (evE c b σ A).bind (kCmp2 o x) := id rfl
@[simp] theorem evE_cmp (σ : Sl) (A : AH) (o : COp) (a b : E) : evE c (.cmp o a b) σ A = (evE c a σ A).bind (kCmp c o b σ) := id rfl
def kChain2 (o : COp) (p : COp) (d : E) (σ : Sl) (x : AV) (y : AV) (A : AH) : Res AV := match aCmp o x y A with | some true => (evE c d σ A).bind (kCmp2 p y) | some false => .ok (.bl false) A | none => .bad
@[simp] theorem kChain2_eq (o : COp) (p : COp) (d : E) (σ : Sl) (x : AV) (y : AV) (A : AH) : kChain2 c o p d σ x y A = match aCmp o x y A with | some true => (evE c d σ A).bind (kCmp2 p y) | some false => .ok (.bl false) A | none => .bad := id rfl
def kChain (o : COp) (p : COp) (b : E) (d : E) (σ : Sl) (x : AV) (A : AH) : Res AV := (evE c b σ A).bind (kChain2 c o p d σ x)
@[simp] theorem kChain_eq (o : COp) (p : COp) (b : E) (d : E) (σ : Sl) (x : AV) (A : AH) : kChain c o p b d σ x A = (evE c b σ A).bind (kChain2 c o p d σ x) := id rfl
@[simp] theorem evE_chain (σ : Sl) (A : AH) (o p : COp) (a b d : E) : evE c (.chain o p a b d) σ A = (evE c a σ A).bind (kChain c o p b d σ) := id rfl
def kNeg (x : AV) (A : AH) : Res AV := match x with | .int i => .ok (.int (-i)) A | _ => .bad
@[simp] theorem kNeg_eq (x : AV) (A : AH) : kNeg  x A = match x with | .int i => .ok (.int (-i)) A | _ => .bad := id rfl
@[simp] theorem evE_neg (σ : Sl) (A : AH) (a : E) : evE c (.neg a) σ A = (evE c a σ A).bind kNeg := id rfl
def kNot (x : AV) (A : AH) : Res AV := match truth A x with | some k => .ok (.bl (!k)) A | none => .bad
@[simp] theorem kNot_eq (x : AV) (A : AH) : kNot  x A = match truth A x with | some k => .ok (.bl (!k)) A | none => .bad := id rfl
@[simp] theorem evE_not (σ : Sl) (A : AH) (a : E) : evE c (.not a) σ A = (evE c a σ A).bind kNot := id rfl
def kAnd (b : E) (σ : Sl) (x : AV) (A : AH) : Res AV := match truth A x with | some true => evE c b σ A | some false => .ok x A | none => .bad
@[simp] theorem kAnd_eq (b : E) (σ : Sl) (x : AV) (A : AH) : kAnd c b σ x A = match truth A x with | some true => evE c b σ A | some false => .ok x A | none => .bad := id rfl
@[simp] theorem evE_and (σ : Sl) (A : AH) (a b : E) : evE c (.and a b) σ A = (evE c a σ A).bind (kAnd c b σ) := id rfl
def kOr (b : E) (σ : Sl) (x : AV) (A : AH) : Res AV := match truth A x with | some true => .ok x A | some false => evE c b σ A | none => .bad
@[simp] theorem kOr_eq (b : E) (σ : Sl) (x : AV) (A : AH) : kOr c b σ x A = match truth A x with | some true => .ok x A | some false => evE c b σ A | none => .bad := id rfl
@[simp] theorem evE_or (σ : Sl) (A : AH) (a b : E) : evE c (.or a b) σ A = (evE c a σ A).bind (kOr c b σ) := id rfl
def kIte (a : E) (b : E) (σ : Sl) (k : Bool) (A : AH) : Res AV := if k then evE c a σ A else evE c b σ A
@[simp] theorem kIte_eq (a : E) (b : E) (σ : Sl) (k : Bool) (A : AH) : kIte c a b σ k A = if k then evE c a σ A else evE c b σ A := id rfl
@[simp] theorem evE_ite (σ : Sl) (A : AH) (q a b : E) : evE c (.ite q a b) σ A = ((evE c q σ A).bind tru).bind (kIte c a b σ) := id rfl
def kTup (xs : List AV) (A : AH) : Res AV := if xs.length ≤ sizeLine then .ok (.tup xs) A else .bad
@[simp] theorem kTup_eq (xs : List AV) (A : AH) : kTup  xs A = if xs.length ≤ sizeLine then .ok (.tup xs) A else .bad := id rfl
@[simp] theorem evE_tup (σ : Sl) (A : AH) (es : List E) : evE c (.tup es) σ A = (evEs c es σ A).bind kTup := id rfl
def kIx2 (x : AV) (y : AV) (A : AH) : Res AV := match aIx x y A with | some v => .ok v A | none => .bad
@[simp] theorem kIx2_eq (x : AV) (y : AV) (A : AH) : kIx2 x y A = match aIx x y A with | some v => .ok v A | none => .bad := id rfl
def kIx (b : E) (σ : Sl) (x : AV) (A : AH) : Res AV := (evE c b σ A).bind (kIx2 x)
@[simp] theorem kIx_eq (b : E) (σ : Sl) (x : AV) (A : AH) : kIx c b σ x A = (evE c b σ A).bind (kIx2 x) := id rfl
@[simp] theorem evE_ix (σ : Sl) (A : AH) (a b : E) : evE c (.ix a b) σ A = (evE c a σ A).bind (kIx c b σ) := id rfl
def kSl2 (hi : Option E) (σ : Sl) (x : AV) (l : Option Int) (A : AH) : Res AV := (evO c hi σ A).bind (aSl x l)
@[simp] theorem kSl2_eq (hi : Option E) (σ : Sl) (x : AV) (l : Option Int) (A : AH) : kSl2 c hi σ x l A = (evO c hi σ A).bind (aSl x l) := id rfl
def kSl (lo : Option E) (hi : Option E) (σ : Sl) (x : AV) (A : AH) : Res AV := (evO c lo σ A).bind (kSl2 c hi σ x)
@[simp] theorem kSl_eq (lo : Option E) (hi : Option E) (σ : Sl) (x : AV) (A : AH) : kSl c lo hi σ x A = (evO c lo σ A).bind (kSl2 c hi σ x) := id rfl
@[simp] theorem evE_sl (σ : Sl) (A : AH) (a : E) (lo hi : Option E) : evE c (.sl a lo hi) σ A = (evE c a σ A).bind (kSl c lo hi σ) := id rfl
def kCall (f : Str) (ds : List AV) (xs : List AV) (A : AH) : Res AV := c.fn f (xs ++ ds) A
@[simp] theorem kCall_eq (f : Str) (ds : List AV) (xs : List AV) (A : AH) : kCall c f ds xs A = c.fn f (xs ++ ds) A := id rfl
@[simp] theorem evE_call (σ : Sl) (A : AH) (f : Str) (es : List E) (ds : List AV) : evE c (.call f es ds) σ A = (evEs c es σ A).bind (kCall c f ds) := id rfl
@[simp] theorem evE_bif (σ : Sl) (A : AH) (f : Bif) (es : List E) : evE c (.bif f es) σ A = (evEs c es σ A).bind (aBif f) := id rfl
def kMth (m : Mth) (es : List E) (σ : Sl) (x : AV) (A : AH) : Res AV := if mthTy m x A then (evEs c es σ A).bind (aMth m x) else .bad
@[simp] theorem kMth_eq (m : Mth) (es : List E) (σ : Sl) (x : AV) (A : AH) : kMth c m es σ x A = if mthTy m x A then (evEs c es σ A).bind (aMth m x) else .bad := id rfl
@[simp] theorem evE_mth (σ : Sl) (A : AH) (m : Mth) (o : E) (es : List E) : evE c (.mth m o es) σ A = (evE c o σ A).bind (kMth c m es σ) := id rfl
def kNew (xs : List AV) (A : AH) : Res AV := .ok (.ref A.length) (A ++ [.lst xs])
@[simp] theorem kNew_eq (xs : List AV) (A : AH) : kNew  xs A = .ok (.ref A.length) (A ++ [.lst xs]) := id rfl
@[simp] theorem evE_new (σ : Sl) (A : AH) (l : L) : evE c (.new l) σ A = (evL c l σ A).bind kNew := id rfl
@[simp] theorem evE_dnew (σ : Sl) (A : AH) : evE c .dnew σ A = .ok (.ref A.length) (A ++ [.dT false []]) := id rfl
def kDct (xs : List AV) (A : AH) : Res AV := match pairsK xs with | some kvs => if kvs.length ≤ 15 then .ok (.ref A.length) (A ++ [.dT false (mergeA [] kvs)]) else .bad | none => .bad
@[simp] theorem kDct_eq (xs : List AV) (A : AH) : kDct xs A = match pairsK xs with | some kvs => if kvs.length ≤ 15 then .ok (.ref A.length) (A ++ [.dT false (mergeA [] kvs)]) else .bad | none => .bad := id rfl
@[simp] theorem evE_dct (σ : Sl) (A : AH) (es : List E) : evE c (.dct es) σ A = (evEs c es σ A).bind kDct := id rfl
def kLrange (x : AV) (A : AH) : Res AV := match x with | .int j => if -(2 ^ 62) ≤ j ∧ j ≤ 1000000 then .ok (.ref A.length) (A ++ [.lst ((List.range j.toNat).map fun (k : Nat) => AV.int k)]) else .bad | _ => .bad
@[simp] theorem kLrange_eq (x : AV) (A : AH) : kLrange x A = match x with | .int j => if -(2 ^ 62) ≤ j ∧ j ≤ 1000000 then .ok (.ref A.length) (A ++ [.lst ((List.range j.toNat).map fun (k : Nat) => AV.int k)]) else .bad | _ => .bad := id rfl
@[simp] theorem evE_lrange (σ : Sl) (A : AH) (a : E) : evE c (.lrange a) σ A = (evE c a σ A).bind kLrange := id rfl
@[simp] theorem evE_lf (σ : Sl) (A : AH) (f : LF) (l : L) : evE c (.lf f l) σ A = (evL c l σ A).bind (aLF f) := id rfl
@[simp] theorem evE_var (σ : Sl) (A : AH) (i : Nat) : evE c (.var i) σ A = match σ[i]? with | some (some v) => .ok v A | _ => .bad := id rfl
@[simp] theorem evE_lit (σ : Sl) (A : AH) (v : AV) : evE c (.lit v) σ A = .ok v A := id rfl
@[simp] theorem evE_glob (σ : Sl) (A : AH) (x : Str) : evE c (.glob x) σ A = match c.gl x with | some v => .ok v A | none => .bad := id rfl
@[simp] theorem evEs_nil (σ : Sl) (A : AH) : evEs c [] σ A = .ok [] A := id rfl
def kCons2 (x : AV) (xs : List AV) (A : AH) : Res (List AV) := .ok (x :: xs) A
@[simp] theorem kCons2_eq (x : AV) (xs : List AV) (A : AH) : kCons2 x xs A = .ok (x :: xs) A := id rfl
def kCons (es : List E) (σ : Sl) (x : AV) (A : AH) : Res (List AV) := (evEs c es σ A).bind (kCons2 x)
@[simp] theorem kCons_eq (es : List E) (σ : Sl) (x : AV) (A : AH) : kCons c es σ x A = (evEs c es σ A).bind (kCons2 x) := id rfl
@[simp] theorem evEs_cons (σ : Sl) (A : AH) (e : E) (es : List E) : evEs c (e :: es) σ A = (evE c e σ A).bind (kCons c es σ) := id rfl
@[simp] theorem evO_none (σ : Sl) (A : AH) : evO c none σ A = .ok none A := id rfl
def kO (x : AV) (A : AH) : Res (Option Int) := match x with | .int i => .ok (some i) A | _ => .bad
@[simp] theorem kO_eq (x : AV) (A : AH) : kO  x A = match x with | .int i => .ok (some i) A | _ => .bad := id rfl
@[simp] theorem evO_some (σ : Sl) (A : AH) (e : E) : evO c (some e) σ A = (evE c e σ A).bind kO := id rfl
def kDisp (xs : List AV) (A : AH) : Res (List AV) := if xs.length ≤ sizeLine then .ok xs A else .bad
@[simp] theorem kDisp_eq (xs : List AV) (A : AH) : kDisp  xs A = if xs.length ≤ sizeLine then .ok xs A else .bad := id rfl
@[simp] theorem evL_disp (σ : Sl) (A : AH) (es : List E) : evL c (.disp es) σ A = (evEs c es σ A).bind kDisp := id rfl
@[simp] theorem evTg_name (σ : Sl) (A : AH) (i : Nat) (v : AV) : evTg c (.name i) v σ A = .ok (σ.set i (some v)) A := id rfl
@[simp] theorem evTg_tup (σ : Sl) (A : AH) (ts : List T) (v : AV) : evTg c (.tup ts) v σ A = match v with | .tup xs => if xs.length = ts.length then evTs c ts xs σ A else .bad | _ => .bad := id rfl
def kTsub2 (v : AV) (σ : Sl) (x : AV) (y : AV) (A : AH) : Res Sl := match aSet x y v A with | some A' => .ok σ A' | none => .bad
@[simp] theorem kTsub2_eq (v : AV) (σ : Sl) (x : AV) (y : AV) (A : AH) : kTsub2 v σ x y A = match aSet x y v A with | some A' => .ok σ A' | none => .bad := id rfl
def kTsub (i : E) (v : AV) (σ : Sl) (x : AV) (A : AH) : Res Sl := (evE c i σ A).bind (kTsub2 v σ x)
@[simp] theorem kTsub_eq (i : E) (v : AV) (σ : Sl) (x : AV) (A : AH) : kTsub c i v σ x A = (evE c i σ A).bind (kTsub2 v σ x) := id rfl
@[simp] theorem evTg_sub (σ : Sl) (A : AH) (o i : E) (v : AV) : evTg c (.sub o i) v σ A = (evE c o σ A).bind (kTsub c i v σ) := id rfl
@[simp] theorem evTs_nil (σ : Sl) (A : AH) : evTs c [] [] σ A = .ok σ A := id rfl
def kTs (ts : List T) (xs : List AV) (σ : Sl) (A : AH) : Res Sl := evTs c ts xs σ A
@[simp] theorem kTs_eq (ts : List T) (xs : List AV) (σ : Sl) (A : AH) : kTs c ts xs σ A = evTs c ts xs σ A := id rfl
@[simp] theorem evTs_cons (σ : Sl) (A : AH) (t : T) (ts : List T) (x : AV) (xs : List AV) : evTs c (t :: ts) (x :: xs) σ A = (evTg c t x σ A).bind (kTs c ts xs) := id rfl
def kAsg (t : T) (σ : Sl) (v : AV) (A : AH) : Out := (evTg c t v σ A).out .next
@[simp] theorem kAsg_eq (t : T) (σ : Sl) (v : AV) (A : AH) : kAsg c t σ v A = (evTg c t v σ A).out .next := id rfl
@[simp] theorem evS_asg (σ : Sl) (A : AH) (t : T) (e : E) : evS c (.asg t e) σ A = (evE c e σ A).out (kAsg c t σ) := id rfl
def kPar2 (i : Nat) (j : Nat) (σ : Sl) (x : AV) (y : AV) (A : AH) : Out := .next ((σ.set i (some x)).set j (some y)) A
@[simp] theorem kPar2_eq (i : Nat) (j : Nat) (σ : Sl) (x : AV) (y : AV) (A : AH) : kPar2 i j σ x y A = .next ((σ.set i (some x)).set j (some y)) A := id rfl
def kPar (i : Nat) (j : Nat) (b : E) (σ : Sl) (x : AV) (A : AH) : Out := (evE c b σ A).out (kPar2 i j σ x)
@[simp] theorem kPar_eq (i : Nat) (j : Nat) (b : E) (σ : Sl) (x : AV) (A : AH) : kPar c i j b σ x A = (evE c b σ A).out (kPar2 i j σ x) := id rfl
@[simp] theorem evS_par (σ : Sl) (A : AH) (i j : Nat) (a b : E) : evS c (.par i j a b) σ A = (evE c a σ A).out (kPar c i j b σ) := id rfl
def kAug2 (i : Nat) (σ : Sl) (z : AV) (A : AH) : Out := .next (σ.set i (some z)) A
@[simp] theorem kAug2_eq (i : Nat) (σ : Sl) (z : AV) (A : AH) : kAug2 i σ z A = .next (σ.set i (some z)) A := id rfl
def kAug (i : Nat) (o : BOp) (σ : Sl) (x : AV) (y : AV) (A : AH) : Out := (aAug o x y A).out (kAug2 i σ)
@[simp] theorem kAug_eq (i : Nat) (o : BOp) (σ : Sl) (x : AV) (y : AV) (A : AH) : kAug i o σ x y A = (aAug o x y A).out (kAug2 i σ) := id rfl
@[simp] theorem evS_aug (σ : Sl) (A : AH) (i : Nat) (o : BOp) (e : E) : evS c (.aug i o e) σ A = match σ[i]? with | some (some x) => (evE c e σ A).out (kAug i o σ x) | _ => .bad := id rfl
def kAugs4 (σ : Sl) (x : AV) (y : AV) (z : AV) (A : AH) : Out := match aSet x y z A with | some A' => .next σ A' | none => .bad
@[simp] theorem kAugs4_eq (σ : Sl) (x : AV) (y : AV) (z : AV) (A : AH) : kAugs4 σ x y z A = match aSet x y z A with | some A' => .next σ A' | none => .bad := id rfl
def kAugs3 (op : BOp) (σ : Sl) (x : AV) (y : AV) (v : AV) (w : AV) (A : AH) : Out := (aAug op v w A).out (kAugs4 σ x y)
@[simp] theorem kAugs3_eq (op : BOp) (σ : Sl) (x : AV) (y : AV) (v : AV) (w : AV) (A : AH) : kAugs3 op σ x y v w A = (aAug op v w A).out (kAugs4 σ x y) := id rfl
def kAugs2 (op : BOp) (e : E) (σ : Sl) (x : AV) (y : AV) (A : AH) : Out := if mthTy .append x A then (match aIx x y A with | some v => (evE c e σ A).out (kAugs3 op σ x y v) | none => .bad) else .bad
@[simp] theorem kAugs2_eq (op : BOp) (e : E) (σ : Sl) (x : AV) (y : AV) (A : AH) : kAugs2 c op e σ x y A = if mthTy .append x A then (match aIx x y A with | some v => (evE c e σ A).out (kAugs3 op σ x y v) | none => .bad) else .bad := id rfl
def kAugs (i : E) (op : BOp) (e : E) (σ : Sl) (x : AV) (A : AH) : Out := (evE c i σ A).out (kAugs2 c op e σ x)
@[simp] theorem kAugs_eq (i : E) (op : BOp) (e : E) (σ : Sl) (x : AV) (A : AH) : kAugs c i op e σ x A = (evE c i σ A).out (kAugs2 c op e σ x) := id rfl
@[simp] theorem evS_augs (σ : Sl) (A : AH) (o i : E) (op : BOp) (e : E) : evS c (.augs o i op e) σ A = (evE c o σ A).out (kAugs c i op e σ) := id rfl
def kExpr (σ : Sl) (v : AV) (A : AH) : Out := .next σ A
@[simp] theorem kExpr_eq (σ : Sl) (v : AV) (A : AH) : kExpr σ v A = .next σ A := id rfl
@[simp] theorem evS_expr (σ : Sl) (A : AH) (e : E) : evS c (.expr e) σ A = (evE c e σ A).out (kExpr σ) := id rfl
@[simp] theorem evS_ret (σ : Sl) (A : AH) (e : E) : evS c (.ret e) σ A = (evE c e σ A).out .ret := id rfl
def kIf (a : List S) (b : List S) (σ : Sl) (k : Bool) (A : AH) : Out := if k then evSs c a σ A else evSs c b σ A
@[simp] theorem kIf_eq (a : List S) (b : List S) (σ : Sl) (k : Bool) (A : AH) : kIf c a b σ k A = if k then evSs c a σ A else evSs c b σ A := id rfl
@[simp] theorem evS_if (σ : Sl) (A : AH) (q : E) (a b : List S) : evS c (.if_ q a b) σ A = ((evE c q σ A).bind tru).out (kIf c a b σ) := id rfl
@[simp] theorem evS_pass (σ : Sl) (A : AH) : evS c .pass σ A = .next σ A := id rfl
@[simp] theorem evS_brk (σ : Sl) (A : AH) : evS c .brk σ A = .brk σ A := id rfl
@[simp] theorem evS_cont (σ : Sl) (A : AH) : evS c .cont σ A = .cont σ A := id rfl
@[simp] theorem evSs_nil (σ : Sl) (A : AH) : evSs c [] σ A = .next σ A := id rfl
def kSs (r : List S) (σ : Sl) (A : AH) : Out := evSs c r σ A
@[simp] theorem kSs_eq (r : List S) (σ : Sl) (A : AH) : kSs c r σ A = evSs c r σ A := id rfl
@[simp] theorem evSs_cons (σ : Sl) (A : AH) (s : S) (r : List S) : evSs c (s :: r) σ A = (evS c s σ A).seq (kSs c r) := id rfl
@[simp] theorem evT_eq (σ : Sl) (A : AH) (e : E) : evT c e σ A = (evE c e σ A).bind tru := id rfl
theorem evL_comp (σ : Sl) (A : AH) (own : List Nat) (it : I) (tg : T) (q elt : E) : evL c (.comp own it tg q elt) σ A = (evI c it σ A).bind fun t A =>
      compGo t.chk (fun x A => evTg c tg x (wipeS σ own) A) (fun σ A => (evE c q σ A).bind tru) (fun σ A => evE c elt σ A) t.items [] A := rfl
theorem evI_v (σ : Sl) (A : AH) (e : E) : evI c (.v e) σ A = (evE c e σ A).bind fun x A => match x with
    | .tup xs => .ok (.val xs) A
    | .fl xs => .ok (.val xs) A
    | .pt xs => .ok (.val (xs.map .str)) A
    | .ref n => (match A[n]? with | some (.lst xs) => .ok (.obj n xs) A | some (.dT false kvs) => .ok (.keys n true kvs) (A.set n (.dT true kvs)) | some (.dT true kvs) => .ok (.keys n false kvs) A | _ => .bad)
    | _ => .bad := rfl
theorem evI_l (σ : Sl) (A : AH) (l : L) : evI c (.l l) σ A = (evL c l σ A).bind fun xs A => .ok (.val xs) A := rfl
theorem evI_range1 (σ : Sl) (A : AH) (a : E) : evI c (.range1 a) σ A = (evE c a σ A).bind fun x A => match x with
    | .int j => if -(2 ^ 62) ≤ j ∧ j < 2 ^ 62 then .ok (.val ((List.range j.toNat).map fun (k : Nat) => AV.int k)) A else .bad
    | _ => .bad := rfl
theorem evI_range2 (σ : Sl) (A : AH) (a b : E) : evI c (.range2 a b) σ A = (evE c a σ A).bind fun x A => (evE c b σ A).bind fun y A => match x, y with
    | .int i, .int j => if -(2 ^ 62) ≤ i ∧ i < 2 ^ 62 ∧ -(2 ^ 62) ≤ j ∧ j < 2 ^ 62 then .ok (.val ((List.range (j - i).toNat).map fun (k : Nat) => AV.int (i + k))) A else .bad
    | _, _ => .bad := rfl
theorem evI_zip (σ : Sl) (A : AH) (a b : E) : evI c (.zip a b) σ A = (evE c a σ A).bind fun x A => (evE c b σ A).bind fun y A => match side A x, side A y with
    | some (l, k), some (r, k') => if k = k' then .ok (.two l r) A else .bad
    | _, _ => .bad := rfl
theorem evS_for (σ : Sl) (A : AH) (t : T) (it : I) (b : List S) : evS c (.for_ t it b) σ A = (evI c it σ A).out fun m A => (forGo m.chk (fun x σ A => evTg c t x σ A) (fun σ A => evSs c b σ A) m.items σ A).behind m := rfl
theorem evS_while (σ : Sl) (A : AH) (q : E) (b : List S) : evS c (.while_ q b) σ A = whGo (fun σ A => evT c q σ A) (fun σ A => evSs c b σ A) c.fuel σ A := rfl
end
section
variable {α β : Type} (A : AH)
@[simp] theorem tru_bl (b : Bool) : tru (.bl b) A = .ok b A := id rfl
@[simp] theorem truth_bl (b : Bool) : truth A (.bl b) = some b := id rfl
@[simp] theorem fin_ret (v : AV) : (Out.ret v A).fin = .ok v A := id rfl
@[simp] theorem fin_next (σ : Sl) : (Out.next σ A).fin = .ok .non A := id rfl
@[simp] theorem add_int (i j : Int) : aBin .add (.int i) (.int j) A = .ok (.int (i + j)) A := id rfl
@[simp] theorem sub_int (i j : Int) : aBin .sub (.int i) (.int j) A = .ok (.int (i - j)) A := id rfl
@[simp] theorem augadd_int (i j : Int) : aAug .add (.int i) (.int j) A = .ok (.int (i + j)) A := id rfl
@[simp] theorem augsub_int (i j : Int) : aAug .sub (.int i) (.int j) A = .ok (.int (i - j)) A := id rfl
theorem mulOk_r {i j : Int} (h : -(2 ^ 64) < j ∧ j < 2 ^ 64) : mulOk i j = true := by
  unfold mulOk
  rw [decide_eq_true h.1, decide_eq_true h.2]
  simp
theorem mulOk_l {i j : Int} (h : -(2 ^ 64) < i ∧ i < 2 ^ 64) : mulOk i j = true := by
  unfold mulOk
  rw [decide_eq_true h.1, decide_eq_true h.2]
  simp
theorem mul_r {i j : Int} (h : -(2 ^ 64) < j ∧ j < 2 ^ 64) : aBin .mul (.int i) (.int j) A = .ok (.int (i * j)) A := by simp only [aBin, mulOk_r h, if_true]
theorem mul_l {i j : Int} (h : -(2 ^ 64) < i ∧ i < 2 ^ 64) : aBin .mul (.int i) (.int j) A = .ok (.int (i * j)) A := by simp only [aBin, mulOk_l h, if_true]
theorem fdiv_int {i j : Int} (h : 0 < j) (h2 : j.natAbs.log2 < 9000) : aBin .fdiv (.int i) (.int j) A = .ok (.int (i / j)) A := by
  have : divOk j = true := by unfold divOk; simp [h, h2]
  simp only [aBin, this, if_true, Int.fdiv_eq_ediv_of_nonneg i (Int.le_of_lt h)]
theorem mod_int {i j : Int} (h : 0 < j) : aBin .mod (.int i) (.int j) A = .ok (.int (i % j)) A := by
  have h2 : j ≠ 0 := by omega
  simp only [aBin, if_pos h2, Int.fmod_eq_emod_of_nonneg i (Int.le_of_lt h)]
@[simp] theorem lt_int (i j : Int) : aCmp .lt (.int i) (.int j) A = some (decide (i < j)) := id rfl
@[simp] theorem gt_int (i j : Int) : aCmp .gt (.int i) (.int j) A = some (decide (j < i)) := id rfl
@[simp] theorem le_int (i j : Int) : aCmp .le (.int i) (.int j) A = some (decide (i ≤ j)) := id rfl
@[simp] theorem ge_int (i j : Int) : aCmp .ge (.int i) (.int j) A = some (decide (j ≤ i)) := id rfl
end
theorem pds_ints : ∀ xs : List Int, pds (xs.map AV.int) = some (xs.map PyData.int)
  | [] => rfl
  | x :: r => by simp only [List.map_cons, pds, pd0, pds_ints r]
theorem lay_ints : ∀ xs : List Int, PyData.canLayAll0 (xs.map PyData.int) = true
  | [] => rfl
  | x :: r => by simp only [List.map_cons, PyData.canLayAll0, PyData.canLay0, lay_ints r, Bool.and_self]
theorem depth_ints : ∀ xs : List Int, PyData.depthAll (xs.map PyData.int) ≤ 1
  | [] => by simp [PyData.depthAll]
  | x :: r => by
    have := depth_ints r
    simp only [List.map_cons, PyData.depthAll, PyData.depth]
    omega
theorem eqv_ints : ∀ xs ys : List Int, PyData.eqvAll (xs.map PyData.int) (ys.map PyData.int) = decide (xs = ys)
  | [], [] => rfl
  | [], _ :: _ => rfl
  | _ :: _, [] => rfl
  | x :: xs, y :: ys => by
    simp only [List.map_cons, PyData.eqvAll, PyData.eqv, eqv_ints xs ys, List.cons.injEq, Bool.decide_and]
    rfl
theorem shaped_tup_ints (xs : List Int) : SeqAt.shaped (.tuple (xs.map PyData.int)) = true := by
  have := depth_ints xs
  show (PyData.canLayAll0 (xs.map PyData.int) && decide (PyData.depthAll (xs.map PyData.int) + 1 ≤ 64)) = true
  rw [lay_ints, decide_eq_true (by omega)]
  rfl
theorem shaped_lst_ints (xs : List Int) : SeqAt.shaped (.list (xs.map PyData.int)) = true := by
  have := depth_ints xs
  show (PyData.canLayAll0 (xs.map PyData.int) && decide (PyData.depthAll (xs.map PyData.int) + 1 ≤ 64)) = true
  rw [lay_ints, decide_eq_true (by omega)]
  rfl
section
variable (A : AH)
@[simp] theorem eq_int (i j : Int) : aCmp .eq (.int i) (.int j) A = some (decide (i = j)) := id rfl
@[simp] theorem ne_int (i j : Int) : aCmp .ne (.int i) (.int j) A = some (!decide (i = j)) := id rfl
@[simp] theorem eq_bl (i j : Bool) : aCmp .eq (.bl i) (.bl j) A = some (i == j) := id rfl
@[simp] theorem ne_bl (i j : Bool) : aCmp .ne (.bl i) (.bl j) A = some (!(i == j)) := id rfl
theorem eq_tints (xs ys : List Int) : aCmp .eq (.tup (xs.map .int)) (.tup (ys.map .int)) A = some (decide (xs = ys)) := by
  simp only [aCmp, aEq, pd, pd0, pds_ints, Option.map_some, shaped_tup_ints, Bool.and_self, if_true, PyData.eqv, eqv_ints]
theorem ne_tints (xs ys : List Int) : aCmp .ne (.tup (xs.map .int)) (.tup (ys.map .int)) A = some (!decide (xs = ys)) := by
  simp only [aCmp, aEq, pd, pd0, pds_ints, Option.map_some, shaped_tup_ints, Bool.and_self, if_true, PyData.eqv, eqv_ints]
theorem ne_lints {n k : Nat} {xs ys : List Int} (h1 : A[n]? = some (.lst (xs.map .int))) (h2 : A[k]? = some (.lst (ys.map .int))) : aCmp .ne (.ref n) (.ref k) A = some (!decide (xs = ys)) := by
  simp only [aCmp, aEq, pd, h1, h2, pds_ints, Option.map_some, shaped_lst_ints, Bool.and_self, if_true, PyData.eqv, eqv_ints]
theorem eq_lints {n k : Nat} {xs ys : List Int} (h1 : A[n]? = some (.lst (xs.map .int))) (h2 : A[k]? = some (.lst (ys.map .int))) : aCmp .eq (.ref n) (.ref k) A = some (decide (xs = ys)) := by
  simp only [aCmp, aEq, pd, h1, h2, pds_ints, Option.map_some, shaped_lst_ints, Bool.and_self, if_true, PyData.eqv, eqv_ints]
end
theorem evSs_append (c : Cfg) (b : List S) : ∀ (a : List S) (σ : Sl) (A : AH), evSs c (a ++ b) σ A = (evSs c a σ A).seq fun σ A => evSs c b σ A
  | [], _, _ => rfl
  | s :: r, σ, A => by
    rw [List.cons_append, evSs_cons, evSs_cons]
    cases evS c s σ A with
    | next σ1 A1 => exact evSs_append c b r σ1 A1
    | _ => rfl
theorem run_eq {T : List Ent} {gl : Str → Option AV} {fuel k : Nat} {x : Str} {e : Ent} (h : getF T x = some e) {xs : List AV} (A : AH) (hl : xs.length = e.ps.length) :
    run (progOf T) gl fuel (k + 1) x xs A = (evSs ⟨run (progOf T) gl fuel k, gl, fuel⟩ e.body (xs.map some ++ List.replicate (e.N.length - e.ps.length) none) A).fin := by
  have : progOf T x = some ⟨e.ps.length, e.N.length, e.body⟩ := by unfold progOf; rw [h]; rfl
  simp only [run, this, if_pos hl]
  rfl
end Ev


set_option linter.all false
set_option maxRecDepth 100000
set_option maxHeartbeats 2000000
namespace Ev
open PySem L2

/-! ### the drawing of numbers from a script -/
def Dr (A : AH) (c : Nat) : Prop := ∃ (s : Nat) (cells : List Int) (p b t u : Int), A[c]? = some (.lst [.ref s, .int p, .int b, .int t, .int u]) ∧ A[s]? = some (.lst (cells.map .int)) ∧ 0 ≤ p ∧ s < c
/-- but for the object at c all is as it was, and the drawer at c is whole -/
structure Fr (c : Nat) (A A' : AH) : Prop where
  len : A.length ≤ A'.length
  old : ∀ i, i < A.length → i ≠ c → A'[i]? = A[i]?
  dr : Dr A' c
theorem Dr.lt {A : AH} {c : Nat} (h : Dr A c) : c < A.length := by
  obtain ⟨s, cells, p, b, t, u, h, _⟩ := h
  exact (List.getElem?_eq_some_iff.mp h).1
theorem Fr.refl {c : Nat} {A : AH} (h : Dr A c) : Fr c A A := ⟨Nat.le_refl _, fun _ _ _ => rfl, h⟩
theorem Fr.trans {c : Nat} {A B C : AH} (h : Fr c A B) (g : Fr c B C) : Fr c A C :=
  ⟨Nat.le_trans h.len g.len, fun i h1 h2 => by rw [g.old i (Nat.lt_of_lt_of_le h1 h.len) h2, h.old i h1 h2], g.dr⟩
theorem Dr.app {A : AH} {c : Nat} (h : Dr A c) (G : AH) : Dr (A ++ G) c := by
  obtain ⟨s, cells, p, b, t, u, h1, h2, h3, h4⟩ := h
  refine ⟨s, cells, p, b, t, u, ?_, ?_, h3, h4⟩
  · rw [List.getElem?_append_left (List.getElem?_eq_some_iff.mp h1).1]; exact h1
  · rw [List.getElem?_append_left (List.getElem?_eq_some_iff.mp h2).1]; exact h2
theorem Fr.app {c : Nat} {A : AH} (h : Dr A c) (G : AH) : Fr c A (A ++ G) :=
  ⟨by simp, fun i h1 _ => by rw [List.getElem?_append_left h1], h.app G⟩
theorem Fr.set {c : Nat} {A : AH} {s : Nat} {cells : List Int} {p b t u : Int} (h : c < A.length) (h1 : A[s]? = some (.lst (cells.map .int))) (h2 : 0 ≤ p) (h3 : s < c) :
    Fr c A (A.set c (.lst [.ref s, .int p, .int b, .int t, .int u])) :=
  ⟨by simp, fun i _ h => by rw [List.getElem?_set_ne (Ne.symm h)], ⟨s, cells, p, b, t, u, by simp [h], by rw [List.getElem?_set_ne (Nat.ne_of_gt h3)]; exact h1, h2, h3⟩⟩
theorem Fr.setNew {d n : Nat} {A A' : AH} (F : Fr d A A') (h : d < A.length) (hn : A.length ≤ n) (o : AO) : Fr d A (A'.set n o) := by
  refine ⟨by simpa using F.len, fun i h1 h2 => by rw [List.getElem?_set_ne (by omega)]; exact F.old i h1 h2, ?_⟩
  obtain ⟨s, cells, p, b, t, u, h1, h2, h3, h4⟩ := F.dr
  exact ⟨s, cells, p, b, t, u, by rw [List.getElem?_set_ne (by omega)]; exact h1, by rw [List.getElem?_set_ne (by omega)]; exact h2, h3, h4⟩
def bDraw : List S := [.if_ (.cmp .gt (.ix (.var 0) (.lit (.int 2))) (.lit (.int 0))) [.asg (.name 2) (.ix (.var 0) (.lit (.int 2))),
      .asg (.sub (.var 0) (.lit (.int 2))) (.bin .fdiv (.var 2) (.var 1)),
      .ret (.bin .mod (.bif .int_ [(.var 2)]) (.var 1))] [],
    .asg (.name 3) (.lit (.int 0)),
    .if_ (.cmp .lt (.ix (.var 0) (.lit (.int 1))) (.bif .len [(.ix (.var 0) (.lit (.int 0)))])) [.asg (.name 4) (.ix (.ix (.var 0) (.lit (.int 0))) (.ix (.var 0) (.lit (.int 1)))),
      .asg (.name 3) (.bin .add (.bin .mul (.lit (.int 2)) (.bif .abs [(.var 4)])) (.bif .int_ [(.cmp .lt (.var 4) (.lit (.int 0)))]))] [],
    .augs (.var 0) (.lit (.int 1)) .add (.lit (.int 1)),
    .if_ (.cmp .ge (.var 3) (.bin .mul (.lit (.int 2)) (.bin .pow (.lit (.int 10)) (.lit (.int 18))))) [.asg (.name 2) (.bin .mod (.bif .int_ [(.bin .fdiv (.var 3) (.lit (.int 2)))]) (.bin .shl (.lit (.int 1)) (.lit (.int 6000)))),
      .asg (.sub (.var 0) (.lit (.int 2))) (.bin .fdiv (.var 2) (.var 1)),
      .ret (.bin .mod (.bif .int_ [(.var 2)]) (.var 1))] [],
    .asg (.sub (.var 0) (.lit (.int 3))) (.bin .mod (.bif .int_ [(.bin .add (.bin .add (.bin .add (.bin .mul (.ix (.var 0) (.lit (.int 3))) (.lit (.int 48271))) (.bin .mul (.bin .mod (.bif .int_ [(.var 3)]) (.lit (.int 2147483629))) (.lit (.int 16807)))) (.bin .mul (.ix (.var 0) (.lit (.int 1))) (.lit (.int 69621)))) (.lit (.int 11)))]) (.lit (.int 2147483647))),
    .ret (.bin .mod (.bif .int_ [(.bin .fdiv (.ix (.var 0) (.lit (.int 3))) (.lit (.int 16)))]) (.var 1))]

theorem ix5_0 {A : AH} {c : Nat} {x0 x1 x2 x3 x4 : AV} (h : A[c]? = some (.lst [x0, x1, x2, x3, x4])) : aIx (.ref c) (.int 0) A = some x0 := by simp only [aIx, seqOf, h, Option.bind_some]; rfl
theorem ix5_1 {A : AH} {c : Nat} {x0 x1 x2 x3 x4 : AV} (h : A[c]? = some (.lst [x0, x1, x2, x3, x4])) : aIx (.ref c) (.int 1) A = some x1 := by simp only [aIx, seqOf, h, Option.bind_some]; rfl
theorem ix5_2 {A : AH} {c : Nat} {x0 x1 x2 x3 x4 : AV} (h : A[c]? = some (.lst [x0, x1, x2, x3, x4])) : aIx (.ref c) (.int 2) A = some x2 := by simp only [aIx, seqOf, h, Option.bind_some]; rfl
theorem ix5_3 {A : AH} {c : Nat} {x0 x1 x2 x3 x4 : AV} (h : A[c]? = some (.lst [x0, x1, x2, x3, x4])) : aIx (.ref c) (.int 3) A = some x3 := by simp only [aIx, seqOf, h, Option.bind_some]; rfl
theorem set5_1 {A : AH} {c : Nat} {x0 x1 x2 x3 x4 v : AV} (h : A[c]? = some (.lst [x0, x1, x2, x3, x4])) : aSet (.ref c) (.int 1) v A = some (A.set c (.lst [x0, v, x2, x3, x4])) := by simp only [aSet, h]; rfl
theorem set5_2 {A : AH} {c : Nat} {x0 x1 x2 x3 x4 v : AV} (h : A[c]? = some (.lst [x0, x1, x2, x3, x4])) : aSet (.ref c) (.int 2) v A = some (A.set c (.lst [x0, x1, v, x3, x4])) := by simp only [aSet, h]; rfl
theorem set5_3 {A : AH} {c : Nat} {x0 x1 x2 x3 x4 v : AV} (h : A[c]? = some (.lst [x0, x1, x2, x3, x4])) : aSet (.ref c) (.int 3) v A = some (A.set c (.lst [x0, x1, x2, v, x4])) := by simp only [aSet, h]; rfl
@[simp] theorem int_int (i : Int) (A : AH) : aBif .int_ [.int i] A = .ok (.int i) A := id rfl
@[simp] theorem int_bl (b : Bool) (A : AH) : aBif .int_ [.bl b] A = .ok (.int (if b then 1 else 0)) A := id rfl
@[simp] theorem abs_int (i : Int) (A : AH) : aBif .abs [.int i] A = .ok (.int (if i < 0 then -i else i)) A := id rfl
theorem len_ref {A : AH} {s : Nat} {xs : List AV} (h : A[s]? = some (.lst xs)) : aBif .len [.ref s] A = .ok (.int xs.length) A := by simp only [aBif, seqOf, h]
theorem ix_ref {A : AH} {s : Nat} {xs : List AV} {i : Int} (h : A[s]? = some (.lst xs)) : aIx (.ref s) (.int i) A = atI xs i := by simp only [aIx, seqOf, h, Option.bind_some]
theorem mthTy_ref {A : AH} {s : Nat} {xs : List AV} (h : A[s]? = some (.lst xs)) : mthTy .append (.ref s) A = true := by simp only [mthTy, h]; rfl
theorem p18 (A : AH) : aBin .pow (.int 10) (.int 18) A = .ok (.int 1000000000000000000) A := by
  have h : powOk 10 18 = true := by decide +kernel
  simp only [aBin, h, if_true]; rfl
theorem sh6000 (A : AH) : aBin .shl (.int 1) (.int 6000) A = .ok (.int (2 ^ 6000)) A := by
  have h : powOk 1 6000 = true := by decide +kernel
  simp only [aBin, h, if_true, Int.one_mul]; rfl
theorem draw_ev (cf : Cfg) {A : AH} {c : Nat} {many : Int} (h : Dr A c) (hm : 0 < many) (hl : many.natAbs.log2 < 9000) :
    ∃ v A', (evSs cf bDraw [some (.ref c), some (.int many), none, none, none] A).fin = .ok (.int v) A' ∧ 0 ≤ v ∧ v < many ∧ Fr c A A' := by
  have hlt := h.lt
  obtain ⟨s, cells, p, b, t, u, h1, h2, h3, h4⟩ := h
  by_cases hb : 0 < b
  · refine ⟨b % many, A.set c (.lst [.ref s, .int p, .int (b / many), .int t, .int u]), ?_, Int.emod_nonneg _ (by omega), Int.emod_lt_of_pos _ hm, Fr.set hlt h2 h3 h4⟩
    unfold bDraw
    simp [ix5_2 h1, set5_2 h1, hb, fdiv_int _ hm hl, mod_int _ hm]
  · -- the cell
    obtain ⟨o4, size, hr⟩ : ∃ o4 size, evSs cf (bDraw.take 3) [some (.ref c), some (.int many), none, none, none] A = .next [some (.ref c), some (.int many), none, some (.int size), o4] A := by
      by_cases hp : p < cells.length
      · obtain ⟨cl, hx⟩ : ∃ cl, atI (cells.map AV.int) p = some (.int cl) := by
          obtain ⟨n, rfl⟩ : ∃ n : Nat, p = n := ⟨p.toNat, by omega⟩
          exact ⟨cells[n]'(by omega), atI_nat (by rw [List.getElem?_map, List.getElem?_eq_getElem (by omega)]; rfl)⟩
        refine ⟨some (.int cl), 2 * (if cl < 0 then -cl else cl) + (if decide (cl < 0) then 1 else 0), ?_⟩
        simp [bDraw, ix5_2 h1, hb, ix5_1 h1, ix5_0 h1, len_ref h2, hp, ix_ref h2, hx, mul_l A (i := 2) (by decide)]
      · refine ⟨none, 0, ?_⟩
        simp [bDraw, ix5_2 h1, hb, ix5_1 h1, ix5_0 h1, len_ref h2, hp]
    have h1' : (A.set c (.lst [.ref s, .int (p + 1), .int b, .int t, .int u]))[c]? = some (.lst [.ref s, .int (p + 1), .int b, .int t, .int u]) := by simp [hlt]
    have F1 : Fr c A (A.set c (.lst [.ref s, .int (p + 1), .int b, .int t, .int u])) := Fr.set hlt h2 (by omega) h4
    have e : bDraw = bDraw.take 3 ++ bDraw.drop 3 := (List.take_append_drop 3 bDraw).symm
    rw [e, evSs_append, hr]
    have h2' : (A.set c (.lst [.ref s, .int (p + 1), .int b, .int t, .int u]))[s]? = some (.lst (cells.map .int)) := by rw [List.getElem?_set_ne (Nat.ne_of_gt h4)]; exact h2
    generalize hB : A.set c (.lst [.ref s, .int (p + 1), .int b, .int t, .int u]) = B at h1' F1 h2'
    have hltB : c < B.length := by rw [← hB]; simpa using hlt
    by_cases hs : 2000000000000000000 ≤ size
    · refine ⟨(size / 2 % 2 ^ 6000) % many, B.set c (.lst [.ref s, .int (p + 1), .int ((size / 2 % 2 ^ 6000) / many), .int t, .int u]), ?_, Int.emod_nonneg _ (by omega), Int.emod_lt_of_pos _ hm, F1.trans (Fr.set hltB h2' (by omega) h4)⟩
      simp [bDraw, mthTy_ref h1, ix5_1 h1, set5_1 h1, hB, mul_l _ (i := 2) (j := 1000000000000000000) (by decide), p18, hs, fdiv_int _ (i := size) (j := 2) (by decide) (by decide), sh6000, mod_int _ (j := 2 ^ 6000) (Int.pow_pos (by decide)), fdiv_int _ hm hl, set5_2 h1', mod_int _ hm]
    · obtain ⟨t', ht⟩ : ∃ t', (t * 48271 + size % 2147483629 * 16807 + (p + 1) * 69621 + 11) % 2147483647 = t' := ⟨_, rfl⟩
      have h5 : (B.set c (.lst [.ref s, .int (p + 1), .int b, .int t', .int u]))[c]? = some (.lst [.ref s, .int (p + 1), .int b, .int t', .int u]) := by simp [hltB]
      refine ⟨(t' / 16) % many, B.set c (.lst [.ref s, .int (p + 1), .int b, .int t', .int u]), ?_, Int.emod_nonneg _ (by omega), Int.emod_lt_of_pos _ hm, F1.trans (Fr.set hltB h2' (by omega) h4)⟩
      simp [bDraw, mthTy_ref h1, ix5_1 h1, set5_1 h1, hB, mul_l _ (i := 2) (j := 1000000000000000000) (by decide), p18, hs, ix5_3 h1', ix5_1 h1', mul_r _ (j := 48271) (by decide), mul_r _ (j := 16807) (by decide), mul_r _ (j := 69621) (by decide), mod_int _ (j := 2147483629) (by decide), mod_int _ (j := 2147483647) (by decide), set5_3 h1', ht, ix5_3 h5, fdiv_int _ (i := t') (j := 16) (by decide) (by decide), mod_int _ hm]
end Ev


set_option linter.all false
set_option maxRecDepth 100000
set_option maxHeartbeats 2000000
namespace Ev
open PySem L2

/-! ### loops, kinds of things -/
theorem comp_wp {chk : AH → Bool} {tg : AV → AH → Res Sl} {q : Sl → AH → Res Bool} {elt : Sl → AH → Res AV} (xs : List AV) (I : Nat → List AV → AH → Prop) (hl : xs.length ≤ sizeLine)
    (hc : ∀ i acc A, i ≤ xs.length → I i acc A → chk A = true ∧ acc.length ≤ i)
    (step : ∀ i x acc A, xs[i]? = some x → I i acc A → ∃ σ2 A2 k A3, tg x A = .ok σ2 A2 ∧ q σ2 A2 = .ok k A3 ∧ (if k = true then ∃ y A4, elt σ2 A3 = .ok y A4 ∧ I (i + 1) (acc ++ [y]) A4 else I (i + 1) acc A3)) :
    ∀ (n i : Nat) (acc : List AV) (A : AH), n = xs.length - i → i ≤ xs.length → I i acc A → ∃ acc' A', compGo chk tg q elt (xs.drop i) acc A = .ok acc' A' ∧ I xs.length acc' A'
  | 0, i, acc, A, hn, hi, h => by
    have e : i = xs.length := by omega
    subst e
    rw [List.drop_length]
    exact ⟨acc, A, by simp only [compGo, (hc _ _ _ (Nat.le_refl _) h).1, if_true], h⟩
  | n + 1, i, acc, A, hn, hi, h => by
    have hlt : i < xs.length := by omega
    rw [List.drop_eq_getElem_cons hlt]
    obtain ⟨c1, c2⟩ := hc _ _ _ hi h
    obtain ⟨σ2, A2, k, A3, h1, h2, h3⟩ := step i xs[i] acc A (List.getElem?_eq_getElem hlt) h
    simp only [compGo, c1, if_true, h1, Res.bind, h2]
    cases k with
    | true =>
      rw [if_pos rfl] at h3
      obtain ⟨y, A4, h4, h5⟩ := h3
      have : acc.length < sizeLine := by omega
      simp only [h4, if_pos this, if_true]
      exact comp_wp xs I hl hc step n (i + 1) _ _ (by omega) hlt h5
    | false =>
      rw [if_neg Bool.false_ne_true] at h3
      simp only [Bool.false_eq_true, if_false]
      exact comp_wp xs I hl hc step n (i + 1) _ _ (by omega) hlt h3
theorem comp_run {chk : AH → Bool} {tg : AV → AH → Res Sl} {q : Sl → AH → Res Bool} {elt : Sl → AH → Res AV} {xs : List AV} {A : AH} (I : Nat → List AV → AH → Prop) (h0 : I 0 [] A) (hl : xs.length ≤ sizeLine)
    (hc : ∀ i acc A, i ≤ xs.length → I i acc A → chk A = true ∧ acc.length ≤ i)
    (step : ∀ i x acc A, xs[i]? = some x → I i acc A → ∃ σ2 A2 k A3, tg x A = .ok σ2 A2 ∧ q σ2 A2 = .ok k A3 ∧ (if k = true then ∃ y A4, elt σ2 A3 = .ok y A4 ∧ I (i + 1) (acc ++ [y]) A4 else I (i + 1) acc A3)) :
    ∃ acc' A', compGo chk tg q elt xs [] A = .ok acc' A' ∧ I xs.length acc' A' := by
  have := comp_wp (chk := chk) (tg := tg) (q := q) (elt := elt) xs I hl hc step xs.length 0 [] A rfl (Nat.zero_le _) h0
  rw [List.drop_zero] at this
  exact this
/-- a comprehension that only maps -/
theorem comp_map {chk : AH → Bool} {tg : AV → AH → Res Sl} {q : Sl → AH → Res Bool} {elt : Sl → AH → Res AV} {xs : List AV} {A : AH} (f : AV → AV) (hl : xs.length ≤ sizeLine) (hc : chk A = true)
    (h : ∀ x ∈ xs, ∃ σ2, tg x A = .ok σ2 A ∧ q σ2 A = .ok true A ∧ elt σ2 A = .ok (f x) A) : compGo chk tg q elt xs [] A = .ok (xs.map f) A := by
  obtain ⟨acc, A', h1, h2⟩ := comp_wp (chk := chk) (tg := tg) (q := q) (elt := elt) xs (fun i acc A' => A' = A ∧ acc = (xs.take i).map f) hl (fun i acc A' hi ⟨e1, e2⟩ => ⟨by rw [e1]; exact hc, by rw [e2, List.length_map, List.length_take]; omega⟩) (fun i x acc A' hx ⟨e1, e2⟩ => by
    subst e1
    obtain ⟨σ2, a, b, c⟩ := h x (List.mem_of_getElem? hx)
    refine ⟨σ2, A', true, A', a, b, ?_⟩
    rw [if_pos rfl]
    exact ⟨_, _, c, rfl, by rw [e2, List.take_succ, hx]; simp⟩) xs.length 0 [] A rfl (Nat.zero_le _) ⟨rfl, rfl⟩
  rw [List.drop_zero] at h1
  rw [h1, h2.1, h2.2, List.take_length]
theorem for_wp {chk : AH → Bool} {tg : AV → Sl → AH → Res Sl} {body : Sl → AH → Out} (xs : List AV) (I : Nat → Sl → AH → Prop) (Rt : AV → AH → Prop)
    (hc : ∀ i σ A, i ≤ xs.length → I i σ A → chk A = true)
    (step : ∀ i x σ A, xs[i]? = some x → I i σ A → ∃ σ2 A2, tg x σ A = .ok σ2 A2 ∧ ((∃ σ3 A3, body σ2 A2 = .next σ3 A3 ∧ I (i + 1) σ3 A3) ∨ (∃ σ3 A3, body σ2 A2 = .cont σ3 A3 ∧ I (i + 1) σ3 A3) ∨ ∃ v A3, body σ2 A2 = .ret v A3 ∧ Rt v A3)) :
    ∀ (n i : Nat) (σ : Sl) (A : AH), n = xs.length - i → i ≤ xs.length → I i σ A → (∃ σ' A', forGo chk tg body (xs.drop i) σ A = .next σ' A' ∧ I xs.length σ' A') ∨ ∃ v A', forGo chk tg body (xs.drop i) σ A = .ret v A' ∧ Rt v A'
  | 0, i, σ, A, hn, hi, h => by
    have e : i = xs.length := by omega
    subst e
    rw [List.drop_length]
    exact .inl ⟨σ, A, by simp only [forGo, hc _ _ _ (Nat.le_refl _) h, if_true], h⟩
  | n + 1, i, σ, A, hn, hi, h => by
    have hlt : i < xs.length := by omega
    rw [List.drop_eq_getElem_cons hlt]
    have c1 := hc _ _ _ hi h
    obtain ⟨σ2, A2, h1, h3⟩ := step i xs[i] σ A (List.getElem?_eq_getElem hlt) h
    simp only [forGo, c1, if_true, h1, Res.out]
    rcases h3 with ⟨σ3, A3, h4, h5⟩ | ⟨σ3, A3, h4, h5⟩ | ⟨v, A3, h4, h5⟩
    · simp only [h4, Out.turn]
      exact for_wp xs I Rt hc step n (i + 1) _ _ (by omega) hlt h5
    · simp only [h4, Out.turn]
      exact for_wp xs I Rt hc step n (i + 1) _ _ (by omega) hlt h5
    · exact .inr ⟨v, A3, by simp only [h4, Out.turn], h5⟩
/-- a loop that always runs to its end -/
theorem for_end {chk : AH → Bool} {tg : AV → Sl → AH → Res Sl} {body : Sl → AH → Out} {xs : List AV} {σ : Sl} {A : AH} (I : Nat → Sl → AH → Prop) (h0 : I 0 σ A)
    (hc : ∀ i σ A, i ≤ xs.length → I i σ A → chk A = true)
    (step : ∀ i x σ A, xs[i]? = some x → I i σ A → ∃ σ2 A2, tg x σ A = .ok σ2 A2 ∧ ∃ σ3 A3, body σ2 A2 = .next σ3 A3 ∧ I (i + 1) σ3 A3) :
    ∃ σ' A', forGo chk tg body xs σ A = .next σ' A' ∧ I xs.length σ' A' := by
  have := for_wp (chk := chk) (tg := tg) (body := body) xs I (fun _ _ => False) hc (fun i x σ A hx h => let ⟨σ2, A2, a, b⟩ := step i x σ A hx h; ⟨σ2, A2, a, .inl b⟩) xs.length 0 σ A rfl (Nat.zero_le _) h0
  rw [List.drop_zero] at this
  rcases this with h | ⟨_, _, _, h⟩
  · exact h
  · exact h.elim
/-- a loop that asks something of each item, and leaves with False where it fails -/
theorem for_ask {chk : AH → Bool} {tg : AV → Sl → AH → Res Sl} {body : Sl → AH → Out} {xs : List AV} {σ : Sl} {A : AH} (J : Sl → Prop) (p : AV → Bool) (r : AV) (h0 : J σ) (hc : chk A = true)
    (step : ∀ x ∈ xs, ∀ σ, J σ → ∃ σ2, tg x σ A = .ok σ2 A ∧ (if p x = true then ∃ σ3, body σ2 A = .next σ3 A ∧ J σ3 else body σ2 A = .ret r A)) :
    if xs.all p = true then ∃ σ', forGo chk tg body xs σ A = .next σ' A ∧ J σ' else forGo chk tg body xs σ A = .ret r A := by
  have := for_wp (chk := chk) (tg := tg) (body := body) xs (fun i σ A' => A' = A ∧ J σ ∧ (xs.take i).all p = true) (fun v A' => v = r ∧ A' = A ∧ xs.all p = false) (fun i σ A' _ h => by rw [h.1]; exact hc) (fun i x σ A' hx ⟨e, h, ha⟩ => by
    subst e
    have hm := List.mem_of_getElem? hx
    obtain ⟨σ2, h1, h2⟩ := step x hm σ h
    refine ⟨σ2, A', h1, ?_⟩
    cases hp : p x with
    | true =>
      rw [hp, if_pos rfl] at h2
      obtain ⟨σ3, h3, h4⟩ := h2
      exact .inl ⟨σ3, A', h3, rfl, h4, by rw [List.take_succ, hx, List.all_append, ha]; simp [hp]⟩
    | false =>
      rw [hp, if_neg Bool.false_ne_true] at h2
      exact .inr (.inr ⟨r, A', h2, rfl, rfl, by
        cases e : xs.all p with
        | false => rfl
        | true => rw [List.all_eq_true.mp e x hm] at hp; cases hp⟩)) xs.length 0 σ A rfl (Nat.zero_le _) ⟨rfl, h0, rfl⟩
  rw [List.drop_zero] at this
  rcases this with ⟨σ', A', h1, rfl, h2, h3⟩ | ⟨v, A', h1, rfl, rfl, h2⟩
  · rw [List.take_length] at h3
    rw [h3, if_pos rfl]
    exact ⟨σ', h1, h2⟩
  · rw [h2, if_neg Bool.false_ne_true]
    exact h1
@[simp] theorem chk_val (xs : List AV) (A : AH) : (Itm.val xs).chk A = true := id rfl
@[simp] theorem items_val (xs : List AV) : (Itm.val xs).items = xs := id rfl
@[simp] theorem items_obj (n : Nat) (xs : List AV) : (Itm.obj n xs).items = xs := id rfl
theorem chk_keys {n : Nat} {own : Bool} {kvs : List (List Key × AV)} {A : AH} (h : A[n]? = some (.dT true kvs)) : (Itm.keys n own kvs).chk A = true := by
  unfold Itm.chk
  exact @decide_eq_true _ (Classical.propDecidable _) h
theorem chk_obj {n : Nat} {xs : List AV} {A : AH} (h : A[n]? = some (.lst xs)) : (Itm.obj n xs).chk A = true := by
  unfold Itm.chk
  exact @decide_eq_true _ (Classical.propDecidable _) h

section
variable {c : Cfg} {t : T} {e e2 : E} {b : List S} {σ : Sl} {A : AH} {xs : List AV}
theorem forV (h : evE c e σ A = .ok (.tup xs) A) : evS c (.for_ t (.v e) b) σ A = forGo (Itm.val xs).chk (fun x σ A => evTg c t x σ A) (fun σ A => evSs c b σ A) xs σ A := by
  rw [evS_for, evI_v, h]; exact behind_val _ _
theorem forO {n : Nat} {A' : AH} (h : evE c e σ A = .ok (.ref n) A') (h2 : A'[n]? = some (.lst xs)) : evS c (.for_ t (.v e) b) σ A = forGo (Itm.obj n xs).chk (fun x σ A => evTg c t x σ A) (fun σ A => evSs c b σ A) xs σ A' := by
  rw [evS_for, evI_v, h]; simp only [Res.bind, h2]; exact behind_obj _ _ _
theorem rng_ok {n : Nat} (hn : n < 4611686018427387904) : (-(2 ^ 62) : Int) ≤ (n : Int) ∧ (n : Int) < 2 ^ 62 := by omega
theorem rngJ {j : Int} {A' : AH} (h : evE c e σ A = .ok (.int j) A') (hn : (-(2 ^ 62) : Int) ≤ j ∧ j < 2 ^ 62) : evI c (.range1 e) σ A = .ok (.val ((List.range j.toNat).map fun (k : Nat) => AV.int k)) A' := by
  rw [evI_range1, h]
  exact if_pos hn
theorem rngI {n : Nat} {A' : AH} (h : evE c e σ A = .ok (.int n) A') (hn : n < 4611686018427387904) : evI c (.range1 e) σ A = .ok (.val ((List.range n).map fun (k : Nat) => AV.int k)) A' := by
  have q := rngJ h (rng_ok hn)
  rw [Int.toNat_natCast] at q
  exact q
theorem forN {n : Nat} (h : evE c e σ A = .ok (.int n) A) (hn : n < 4611686018427387904) : evS c (.for_ t (.range1 e) b) σ A = forGo (Itm.val ((List.range n).map fun (k : Nat) => AV.int k)).chk (fun x σ A => evTg c t x σ A) (fun σ A => evSs c b σ A) ((List.range n).map fun (k : Nat) => AV.int k) σ A := by
  rw [evS_for, rngI h hn, Res.out, items_val, behind_val]
/-- a walk over a dict's keys, which is frozen for it -/
theorem forK {n : Nat} {kvs : List (List Key × AV)} {A' : AH} (h : evE c e σ A = .ok (.ref n) A') (h2 : A'[n]? = some (.dT false kvs)) : evS c (.for_ t (.v e) b) σ A =
    (forGo (Itm.keys n true kvs).chk (fun x σ A => evTg c t x σ A) (fun σ A => evSs c b σ A) (kvs.map fun kv => AV.tup (kv.1.map unK)) σ (A'.set n (.dT true kvs))).behind (.keys n true kvs) := by
  rw [evS_for, evI_v, h]; simp only [Res.bind, h2]; rfl
/-- a walk over a zip of two sides -/
theorem forZ {l r : Itm} {k : Bool} {x y : AV} {A1 A2 : AH} (h1 : evE c e σ A = .ok x A1) (h2 : evE c e2 σ A1 = .ok y A2) (h3 : side A2 x = some (l, k)) (h4 : side A2 y = some (r, k)) : evS c (.for_ t (.zip e e2) b) σ A =
    forGo (Itm.two l r).chk (fun x σ A => evTg c t x σ A) (fun σ A => evSs c b σ A) (List.zipWith (fun x y => AV.tup [x, y]) l.items r.items) σ A2 := by
  rw [evS_for, evI_zip, h1]; simp only [Res.bind, h2, h3, h4, if_true]; exact behind_two _ _ _
variable {own : List Nat} {q elt : E}
theorem compZ {l r : Itm} {k : Bool} {x y : AV} {A1 A2 : AH} (h1 : evE c e σ A = .ok x A1) (h2 : evE c e2 σ A1 = .ok y A2) (h3 : side A2 x = some (l, k)) (h4 : side A2 y = some (r, k)) : evL c (.comp own (.zip e e2) t q elt) σ A =
    compGo (Itm.two l r).chk (fun x A => evTg c t x (wipeS σ own) A) (fun σ A => (evE c q σ A).bind tru) (fun σ A => evE c elt σ A) (List.zipWith (fun x y => AV.tup [x, y]) l.items r.items) [] A2 := by
  rw [evL_comp, evI_zip, h1]; simp only [Res.bind, h2, h3, h4, if_true]; rfl
theorem compV (h : evE c e σ A = .ok (.tup xs) A) : evL c (.comp own (.v e) t q elt) σ A = compGo (Itm.val xs).chk (fun x A => evTg c t x (wipeS σ own) A) (fun σ A => (evE c q σ A).bind tru) (fun σ A => evE c elt σ A) xs [] A := by
  rw [evL_comp, evI_v, h]; rfl
theorem compFl (h : evE c e σ A = .ok (.fl xs) A) : evL c (.comp own (.v e) t q elt) σ A = compGo (Itm.val xs).chk (fun x A => evTg c t x (wipeS σ own) A) (fun σ A => (evE c q σ A).bind tru) (fun σ A => evE c elt σ A) xs [] A := by
  rw [evL_comp, evI_v, h]; rfl
theorem compO {n : Nat} {A' : AH} (h : evE c e σ A = .ok (.ref n) A') (h2 : A'[n]? = some (.lst xs)) : evL c (.comp own (.v e) t q elt) σ A = compGo (Itm.obj n xs).chk (fun x A => evTg c t x (wipeS σ own) A) (fun σ A => (evE c q σ A).bind tru) (fun σ A => evE c elt σ A) xs [] A' := by
  rw [evL_comp, evI_v, h]; simp only [Res.bind, h2]; rfl
theorem compN {n : Nat} {A' : AH} (h : evE c e σ A = .ok (.int n) A') (hn : n < 4611686018427387904) : evL c (.comp own (.range1 e) t q elt) σ A = compGo (Itm.val ((List.range n).map fun (k : Nat) => AV.int k)).chk (fun x A => evTg c t x (wipeS σ own) A) (fun σ A => (evE c q σ A).bind tru) (fun σ A => evE c elt σ A) ((List.range n).map fun (k : Nat) => AV.int k) [] A' := by
  rw [evL_comp, rngI h hn, Res.bind, items_val]
end
/-- a value that may be asked for its type -/
inductive Good (A : AH) : AV → Prop
  | non : Good A .non
  | bl (b : Bool) : Good A (.bl b)
  | int (i : Int) : Good A (.int i)
  | str (x : Str) : Good A (.str x)
  | fl (xs : List AV) : Good A (.fl xs)
  | ref {n : Nat} (h : n < A.length) : Good A (.ref n)
  | tup {xs : List AV} (h : ∀ x ∈ xs, Good A x) (hl : xs.length ≤ sizeLine) : Good A (.tup xs)
def isI : AV → Bool | .int _ => true | _ => false
def isB : AV → Bool | .bl _ => true | _ => false
def isT : AV → Bool | .tup _ => true | _ => false
def isStr : AV → Bool | .str _ => true | _ => false
theorem Good.mono {A A' : AH} (h : A.length ≤ A'.length) {v : AV} (g : Good A v) : Good A' v := by
  induction g with
  | non => exact .non
  | bl b => exact .bl b
  | int i => exact .int i
  | str x => exact .str x
  | fl xs => exact .fl xs
  | ref q => exact .ref (Nat.lt_of_lt_of_le q h)
  | tup _ hl ih => exact .tup ih hl
section
variable {A : AH} {x : AV}
theorem Good.ty (g : Good A x) : ∃ t, tyName A x = some t ∧ (t == "int") = isI x ∧ (t == "bool") = isB x ∧ (t == "tuple") = isT x ∧ (t == "str") = isStr x := by
  cases g with
  | ref h =>
    rename_i n
    have e : A[n]? = some A[n] := List.getElem?_eq_getElem h
    simp only [tyName, e]
    cases A[n] <;> exact ⟨_, rfl, by simp [isI], by simp [isB], by simp [isT], by simp [isStr]⟩
  | _ => exact ⟨_, rfl, by simp [isI], by simp [isB], by simp [isT], by simp [isStr]⟩
theorem isA_int (t : String) : isA t "int" = some (t == "int" || t == "bool") := by unfold isA; rw [if_pos rfl]
theorem isA_bool (t : String) : isA t "bool" = some (t == "bool") := by unfold isA; rw [if_neg (by decide), if_pos (by simp)]
theorem isA_tup (t : String) : isA t "tuple" = some (t == "tuple") := by unfold isA; rw [if_neg (by decide), if_pos (by simp)]
theorem isA_str (t : String) : isA t "str" = some (t == "str") := by unfold isA; rw [if_neg (by decide), if_pos (by simp)]
theorem Good.i (g : Good A x) : aBif .isinst [x, .ty "int"] A = .ok (.bl (isI x || isB x)) A := by
  obtain ⟨t, h, h1, h2, h3, h4⟩ := g.ty
  simp only [aBif, h, isA_int, h1, h2]
theorem Good.b (g : Good A x) : aBif .isinst [x, .ty "bool"] A = .ok (.bl (isB x)) A := by
  obtain ⟨t, h, h1, h2, h3, h4⟩ := g.ty
  simp only [aBif, h, isA_bool, h2]
theorem Good.t (g : Good A x) : aBif .isinst [x, .ty "tuple"] A = .ok (.bl (isT x)) A := by
  obtain ⟨t, h, h1, h2, h3, h4⟩ := g.ty
  simp only [aBif, h, isA_tup, h3]
theorem Good.s (g : Good A x) : aBif .isinst [x, .ty "str"] A = .ok (.bl (isStr x)) A := by
  obtain ⟨t, h, h1, h2, h3, h4⟩ := g.ty
  simp only [aBif, h, isA_str, h4]
theorem Good.all {xs : List AV} (g : Good A (.tup xs)) : ∀ z ∈ xs, Good A z := by
  cases g with
  | tup q _ => exact q
theorem Good.len {xs : List AV} (g : Good A (.tup xs)) : xs.length ≤ sizeLine := by
  cases g with
  | tup _ q => exact q
theorem Good.at {xs : List AV} {i : Nat} (g : Good A (.tup xs)) (h : xs[i]? = some x) : Good A x := by
  cases g with
  | tup q _ => exact q x (List.mem_of_getElem? h)
end
@[simp] theorem len_tup (xs : List AV) (A : AH) : aBif .len [.tup xs] A = .ok (.int xs.length) A := id rfl
theorem ixTup (xs : List AV) (i : Int) (A : AH) : aIx (.tup xs) (.int i) A = atI xs i := rfl
@[simp] theorem isT_tup (xs : List AV) : isT (.tup xs) = true := id rfl
theorem isT_cases {x : AV} (h : isT x = true) : ∃ xs, x = .tup xs := by cases x <;> simp [isT] at h; exact ⟨_, rfl⟩
theorem isI_cases {x : AV} (h : isI x = true) : ∃ i, x = .int i := by cases x <;> simp [isI] at h; exact ⟨_, rfl⟩
end Ev


set_option linter.all false
set_option maxRecDepth 100000
set_option maxHeartbeats 4000000
namespace Ev
open PySem L2

/-! ### whole numbers, pairs, books: what the program's and the laws' own questions answer of any value -/
theorem atI0 {α : Type} (x : α) (r : List α) : atI (x :: r) 0 = some x := atI_nat (j := 0) rfl
theorem atI1 {α : Type} (x y : α) (r : List α) : atI (x :: y :: r) 1 = some y := atI_nat (j := 1) rfl
theorem two_cases {xs : List AV} (h : xs.length = 2) : ∃ a b, xs = [a, b] := by
  match xs, h with
  | [a, b], _ => exact ⟨a, b, rfl⟩
def bWhole : List S := [.ret (.and (.bif .isinst [(.var 0), (.lit (.ty "int"))]) (.not (.bif .isinst [(.var 0), (.lit (.ty "bool"))])))]
def bPair : List S := [.if_ (.or (.not (.bif .isinst [(.var 0), (.lit (.ty "tuple"))])) (.cmp .ne (.bif .len [(.var 0)]) (.lit (.int 2)))) [.ret (.lit (.bl false))] [],
    .if_ (.or (.not (.call "is_whole" [(.ix (.var 0) (.lit (.int 0)))] [])) (.not (.call "is_whole" [(.ix (.var 0) (.lit (.int 1)))] []))) [.ret (.lit (.bl false))] [],
    .ret (.and (.chain .le .lt (.lit (.int 0)) (.ix (.var 0) (.lit (.int 0))) (.var 1)) (.chain .le .le (.neg (.glob "MOST_COST")) (.ix (.var 0) (.lit (.int 1))) (.glob "MOST_COST")))]
def bInts : List S := [.ret (.and (.bif .isinst [(.var 0), (.lit (.ty "tuple"))]) (.lf .all (.comp [1] (.v (.var 0)) (.name 1) (.lit (.bl true)) (.call "_law_is_int" [(.var 1)] []))))]
def fnIs (c : Cfg) (f : Str) (p : AV → Bool) : Prop := ∀ A x, Good A x → c.fn f [x] A = .ok (.bl (p x)) A
theorem whole_ev (c : Cfg) {A : AH} {x : AV} (g : Good A x) : (evSs c bWhole [some x] A).fin = .ok (.bl (isI x)) A := by
  simp [bWhole, g.i, g.b]
  cases x <;> simp [isI, isB]
def pairB (n : Int) : AV → Bool
  | .tup [.int a, .int b] => decide (0 ≤ a) && decide (a < n) && decide (-9999 ≤ b) && decide (b ≤ 9999)
  | _ => false
def rowB (w : Nat) (n : Int) : AV → Bool
  | .tup xs => xs.length == w && xs.all (pairB n)
  | _ => false
def bookB : AV → Bool
  | .tup (.tup r :: rs) => decide (rs.length + 1 ≤ 24) && (decide (1 ≤ r.length) && decide (r.length ≤ 6)) && (AV.tup r :: rs).all (rowB r.length (rs.length + 1))
  | _ => false
theorem pair_ev (c : Cfg) {A : AH} {x : AV} (g : Good A x) (n : Int) (hw : fnIs c "is_whole" isI) (hm : c.gl "MOST_COST" = some (.int 9999)) : (evSs c bPair [some x, some (.int n)] A).fin = .ok (.bl (pairB n x)) A := by
  cases ht : isT x with
  | false =>
    simp [bPair, g.t, ht]
    cases x <;> simp_all [isT, pairB]
  | true =>
    obtain ⟨xs, rfl⟩ := isT_cases ht
    by_cases hl : xs.length = 2
    · obtain ⟨a, b, rfl⟩ := two_cases hl
      have ga := g.at (i := 0) rfl
      have gb := g.at (i := 1) rfl
      have wa := hw A a ga
      have wb := hw A b gb
      cases ha : isI a with
      | false =>
        simp [bPair, g.t, ixTup, atI0, atI1, wa, wb, hm, ha]
        cases a <;> first | rfl | cases ha
      | true =>
        obtain ⟨i, rfl⟩ := isI_cases ha
        cases hb : isI b with
        | false =>
          simp [bPair, g.t, ixTup, atI0, atI1, wa, wb, hm, ha, hb]
          cases b <;> first | rfl | cases hb
        | true =>
          obtain ⟨j, rfl⟩ := isI_cases hb
          simp [bPair, g.t, ixTup, atI0, atI1, wa, wb, hm, ha, hb]
          by_cases h1 : 0 ≤ i <;> by_cases h2 : i < n <;> by_cases h3 : -9999 ≤ j <;> simp [h1, h2, h3, pairB, hm, ixTup, atI0, atI1]
    · have hl' : ¬((xs.length : Int) = 2) := by omega
      simp [bPair, g.t, hl']
      match xs, hl with
      | [], _ => rfl
      | [_], _ => simp [pairB]
      | [_, _], h => exact absurd rfl h
      | _ :: _ :: _ :: _, _ => simp [pairB]
theorem boolsOf_map (p : AV → Bool) : ∀ xs : List AV, boolsOf (xs.map fun x => .bl (p x)) = some (xs.map p)
  | [] => rfl
  | x :: r => by simp only [List.map_cons, boolsOf, boolsOf_map p r, Option.map_some]
def intsB : AV → Bool | .tup xs => xs.all isI | _ => false
theorem ints_ev (c : Cfg) {A : AH} {x : AV} (g : Good A x) (hw : fnIs c "_law_is_int" isI) : (evSs c bInts [some x, none] A).fin = .ok (.bl (intsB x)) A := by
  cases ht : isT x with
  | false =>
    simp [bInts, g.t, ht]
    cases x <;> first | rfl | cases ht
  | true =>
    obtain ⟨xs, rfl⟩ := isT_cases ht
    have e : evL c (.comp [1] (.v (.var 0)) (.name 1) (.lit (.bl true)) (.call "_law_is_int" [(.var 1)] [])) [some (.tup xs), none] A = .ok (xs.map fun x => .bl (isI x)) A := by
      rw [compV (xs := xs) rfl]
      refine comp_map _ g.len rfl fun x hx => ⟨_, rfl, rfl, ?_⟩
      have gx : Good A x := by
        cases g with
        | tup q _ => exact q x hx
      simp [wipeS, hw A x gx]
    simp [bInts, g.t, e, aLF, boolsOf_map, intsB, List.all_map]
def bBook (e24 e6 : E) (ib : List S) : List S := [.if_ (.or (.not (.bif .isinst [(.var 0), (.lit (.ty "tuple"))])) (.not (.chain .le .le (.lit (.int 1)) (.bif .len [(.var 0)]) e24))) [.ret (.lit (.bl false))] [],
    .if_ (.or (.not (.bif .isinst [(.ix (.var 0) (.lit (.int 0))), (.lit (.ty "tuple"))])) (.not (.chain .le .le (.lit (.int 1)) (.bif .len [(.ix (.var 0) (.lit (.int 0)))]) e6))) [.ret (.lit (.bl false))] [],
    .for_ (.name 1) (.v (.var 0)) [.if_ (.or (.not (.bif .isinst [(.var 1), (.lit (.ty "tuple"))])) (.cmp .ne (.bif .len [(.var 1)]) (.bif .len [(.ix (.var 0) (.lit (.int 0)))]))) [.ret (.lit (.bl false))] [],
      .for_ (.name 2) (.v (.var 1)) ib],
    .ret (.lit (.bl true))]
/-- a book's question, over what it asks of a pair -/
theorem book_ev (c : Cfg) {A : AH} {x : AV} (e24 e6 : E) (ib : List S) (h24 : ∀ σ, evE c e24 σ A = .ok (.int 24) A) (h6 : ∀ σ, evE c e6 σ A = .ok (.int 6) A) (g : Good A x)
    (hin : ∀ X zs z, Good A z → evSs c ib [some (.tup X), some (.tup zs), some z] A = if pairB X.length z = true then .next [some (.tup X), some (.tup zs), some z] A else .ret (.bl false) A) :
    (evSs c (bBook e24 e6 ib) [some x, none, none] A).fin = .ok (.bl (bookB x)) A := by
  cases ht : isT x with
  | false =>
    simp [bBook, g.t, ht]
    cases x <;> first | rfl | cases ht
  | true =>
    obtain ⟨xs, rfl⟩ := isT_cases ht
    match xs with
    | [] => simp [bBook, g.t, h24, bookB]
    | x0 :: xr =>
      have g0 := g.at (i := 0) rfl
      have h1' : (1 : Int) ≤ (xr.length : Int) + 1 := by omega
      by_cases hl : xr.length + 1 ≤ 24
      · have hl' : ((xr.length : Int) + 1 ≤ 24) := by omega
        cases h0 : isT x0 with
        | false =>
          simp [bBook, g.t, h24, hl', h1', ixTup, atI0, g0.t, h0]
          cases x0 <;> first | rfl | cases h0
        | true =>
          obtain ⟨ys, rfl⟩ := isT_cases h0
          by_cases hy : 1 ≤ ys.length ∧ ys.length ≤ 6
          · have hy1 : (1 : Int) ≤ (ys.length : Int) := by omega
            have hy2 : (ys.length : Int) ≤ 6 := by omega
            have gs : ∀ z ∈ AV.tup ys :: xr, Good A z := by
              cases g with
              | tup q _ => exact q
            have e0 : bookB (.tup (.tup ys :: xr)) = (AV.tup ys :: xr).all (rowB ys.length (AV.tup ys :: xr).length) := by simp [bookB, hl, hy.1, hy.2]
            rw [e0]
            generalize hX : AV.tup ys :: xr = X at gs g ht
            have hlen : X.length = xr.length + 1 := by rw [← hX]; rfl
            have hix : aIx (.tup X) (.int 0) A = some (.tup ys) := by rw [← hX]; exact atI0 _ _
            have inner : ∀ zs o, (∀ z ∈ zs, Good A z) → (if zs.all (pairB X.length) = true then ∃ o', evS c (.for_ (.name 2) (.v (.var 1)) ib) [some (.tup X), some (.tup zs), o] A = .next [some (.tup X), some (.tup zs), o'] A
                else evS c (.for_ (.name 2) (.v (.var 1)) ib) [some (.tup X), some (.tup zs), o] A = .ret (.bl false) A) := fun zs o gz => by
              rw [forV (xs := zs) rfl]
              have := for_ask (chk := (Itm.val zs).chk) (tg := fun x σ A => evTg c (.name 2) x σ A) (body := fun σ A => evSs c ib σ A) (xs := zs) (σ := [some (.tup X), some (.tup zs), o]) (A := A)
                (fun σ => ∃ o, σ = [some (.tup X), some (.tup zs), o]) (pairB X.length) (.bl false) ⟨_, rfl⟩ rfl (fun z hz σ hσ => by
                  obtain ⟨o, rfl⟩ := hσ
                  refine ⟨_, rfl, ?_⟩
                  have hp := hin X zs z (gz z hz)
                  cases hb : pairB X.length z with
                  | true => rw [if_pos rfl]; exact ⟨_, by rw [hb, if_pos rfl] at hp; exact hp, _, rfl⟩
                  | false => rw [if_neg Bool.false_ne_true]; rw [hb, if_neg Bool.false_ne_true] at hp; exact hp)
              split at this
              · rename_i hq
                obtain ⟨σ', h1, o', rfl⟩ := this
                rw [if_pos hq]
                exact ⟨o', h1⟩
              · rename_i hq
                rw [if_neg hq]
                exact this
            have outer : if X.all (rowB ys.length X.length) = true then ∃ σ', evS c (.for_ (.name 1) (.v (.var 0)) [.if_ (.or (.not (.bif .isinst [(.var 1), (.lit (.ty "tuple"))])) (.cmp .ne (.bif .len [(.var 1)]) (.bif .len [(.ix (.var 0) (.lit (.int 0)))]))) [.ret (.lit (.bl false))] [],
                .for_ (.name 2) (.v (.var 1)) ib]) [some (.tup X), none, none] A = .next σ' A
                else evS c (.for_ (.name 1) (.v (.var 0)) [.if_ (.or (.not (.bif .isinst [(.var 1), (.lit (.ty "tuple"))])) (.cmp .ne (.bif .len [(.var 1)]) (.bif .len [(.ix (.var 0) (.lit (.int 0)))]))) [.ret (.lit (.bl false))] [],
                .for_ (.name 2) (.v (.var 1)) ib]) [some (.tup X), none, none] A = .ret (.bl false) A := by
              rw [forV (xs := X) rfl]
              have := for_ask (chk := (Itm.val X).chk) (tg := fun x σ A => evTg c (.name 1) x σ A) (body := fun σ A => evSs c [.if_ (.or (.not (.bif .isinst [(.var 1), (.lit (.ty "tuple"))])) (.cmp .ne (.bif .len [(.var 1)]) (.bif .len [(.ix (.var 0) (.lit (.int 0)))]))) [.ret (.lit (.bl false))] [],
                .for_ (.name 2) (.v (.var 1)) ib] σ A) (xs := X) (σ := [some (.tup X), none, none]) (A := A)
                (fun σ => ∃ o o2, σ = [some (.tup X), o, o2]) (rowB ys.length X.length) (.bl false) ⟨_, _, rfl⟩ rfl (fun z hz σ hσ => by
                  obtain ⟨o, o2, rfl⟩ := hσ
                  refine ⟨_, rfl, ?_⟩
                  have gz := gs z hz
                  cases hb : isT z with
                  | false =>
                    have : rowB ys.length X.length z = false := by cases z <;> first | rfl | cases hb
                    rw [this, if_neg Bool.false_ne_true]
                    simp [gz.t, hb]
                  | true =>
                    obtain ⟨zs, rfl⟩ := isT_cases hb
                    by_cases hzl : zs.length = ys.length
                    · have hzl' : (zs.length : Int) = (ys.length : Int) := by omega
                      have := inner zs o2 (by cases gz with | tup q _ => exact q)
                      by_cases hq : zs.all (pairB X.length) = true
                      · have hr : rowB ys.length X.length (.tup zs) = true := by simp only [rowB, hzl, beq_self_eq_true, Bool.true_and]; exact hq
                        rw [hr, if_pos rfl]
                        rw [if_pos hq] at this
                        obtain ⟨o', h⟩ := this
                        exact ⟨[some (.tup X), some (.tup zs), o'], by simp [gz.t, hix, hzl', h], _, _, rfl⟩
                      · have hr : rowB ys.length X.length (.tup zs) = false := by simp only [rowB, hzl, beq_self_eq_true, Bool.true_and]; simpa using hq
                        rw [hr, if_neg Bool.false_ne_true]
                        rw [if_neg hq] at this
                        simp [gz.t, hix, hzl', this]
                    · have hzl' : ¬((zs.length : Int) = (ys.length : Int)) := by omega
                      have hr : rowB ys.length X.length (.tup zs) = false := by simp [rowB, hzl]
                      rw [hr, if_neg Bool.false_ne_true]
                      simp [gz.t, hix, hzl'])
              split at this
              · rename_i hq
                obtain ⟨σ', h1, _⟩ := this
                rw [if_pos hq]
                exact ⟨σ', h1⟩
              · rename_i hq
                rw [if_neg hq]
                exact this
            have gx0 : Good A (.tup ys) := g0
            have hl2 : (X.length : Int) ≤ 24 := by omega
            have hl3 : (1 : Int) ≤ (X.length : Int) := by omega
            by_cases hq : X.all (rowB ys.length X.length) = true
            · rw [if_pos hq] at outer
              obtain ⟨σ', h⟩ := outer
              simp [bBook, g.t, h24, h6, hl2, hl3, hix, gx0.t, hy1, hy2, h, hq]
            · rw [if_neg hq] at outer
              simp only [Bool.not_eq_true] at hq
              simp [bBook, g.t, h24, h6, hl2, hl3, hix, gx0.t, hy1, hy2, outer, hq]
          · have e0 : bookB (.tup (.tup ys :: xr)) = false := by
              have : (decide (1 ≤ ys.length) && decide (ys.length ≤ 6)) = false := by
                rw [← Bool.decide_and]; exact decide_eq_false hy
              simp only [bookB, this, Bool.and_false, Bool.false_and]
            rw [e0]
            by_cases hy1 : (1 : Int) ≤ (ys.length : Int)
            · have hy2 : ¬((ys.length : Int) ≤ 6) := by omega
              simp [bBook, g.t, h24, h6, hl', h1', ixTup, atI0, g0.t, hy1, hy2]
            · simp [bBook, g.t, h24, h6, hl', h1', ixTup, atI0, g0.t, hy1]
      · have hl' : ¬((xr.length : Int) + 1 ≤ 24) := by omega
        simp [bBook, g.t, h24, hl', h1']
        cases x0 <;> simp [bookB, hl]
end Ev


set_option linter.all false
set_option maxRecDepth 100000
set_option maxHeartbeats 4000000
namespace Ev
open PySem L2

/-! ### what the laws draw with -/
def bBegin : List S := [.ret (.new (.disp [(.new (.comp [1] (.v (.var 0)) (.name 1) (.lit (.bl true)) (.bif .int_ [(.var 1)]))), (.lit (.int 0)), (.lit (.int 0)), (.lit (.int 7)), (.lit (.int 3))]))]
def bPick : List S := [.ret (.ix (.var 1) (.call "_law_draw" [(.var 0), (.bif .len [(.var 1)])] []))]
def bRare : List S := [.ret (.cmp .eq (.call "_law_draw" [(.var 0), (.var 1)] []) (.bin .fdiv (.var 1) (.lit (.int 2))))]
def drawIs (c : Cfg) : Prop := ∀ A d (many : Int), Dr A d → 0 < many → many < 2 ^ 64 → ∃ v A', c.fn "_law_draw" [.ref d, .int many] A = .ok (.int v) A' ∧ 0 ≤ v ∧ v < many ∧ Fr d A A'
def pickIs (c : Cfg) : Prop := ∀ A d row xs, Dr A d → seqOf A row = some xs → row ≠ .ref d → xs ≠ [] → xs.length < 2 ^ 62 → ∃ x A', c.fn "_law_pick" [.ref d, row] A = .ok x A' ∧ x ∈ xs ∧ Fr d A A'
def rareIs (c : Cfg) : Prop := ∀ A d (many : Int), Dr A d → 0 < many → many < 2 ^ 64 → ∃ b A', c.fn "_law_rare" [.ref d, .int many] A = .ok (.bl b) A' ∧ Fr d A A'
theorem small_log {many : Int} (h : 0 < many) (h2 : many < 2 ^ 64) : many.natAbs.log2 < 9000 := by
  have h3 : many.natAbs < 2 ^ 64 := by omega
  have : many.natAbs.log2 < 64 := (Nat.log2_lt (by omega)).mpr h3
  omega
theorem draw_ev2 (c : Cfg) {A : AH} {d : Nat} {many : Int} (h : Dr A d) (hm : 0 < many) (hl : many < 2 ^ 64) :
    ∃ v A', (evSs c bDraw [some (.ref d), some (.int many), none, none, none] A).fin = .ok (.int v) A' ∧ 0 ≤ v ∧ v < many ∧ Fr d A A' := draw_ev c h hm (small_log hm hl)
theorem begin_ev (c : Cfg) {A : AH} {ns : List Int} (hl : ns.length ≤ sizeLine) : ∃ A', (evSs c bBegin [some (.fl (ns.map .int)), none] A).fin = .ok (.ref (A.length + 1)) A' ∧ Dr A' (A.length + 1) := by
  have e : evL c (.comp [1] (.v (.var 0)) (.name 1) (.lit (.bl true)) (.bif .int_ [(.var 1)])) [some (.fl (ns.map .int)), none] A = .ok (ns.map .int) A := by
    rw [compFl (xs := ns.map .int) rfl]
    have := comp_map (chk := (Itm.val (ns.map AV.int)).chk) (tg := fun x A => evTg c (.name 1) x (wipeS [some (.fl (ns.map .int)), none] [1]) A) (q := fun σ A => (evE c (.lit (.bl true)) σ A).bind tru) (elt := fun σ A => evE c (.bif .int_ [(.var 1)]) σ A) (xs := ns.map AV.int) (A := A) id (by simpa using hl) rfl (fun x hx => by
      obtain ⟨i, _, rfl⟩ := List.mem_map.mp hx
      exact ⟨_, rfl, rfl, by simp [wipeS]⟩)
    rw [List.map_id] at this
    exact this
  have h5 : 5 ≤ sizeLine := by rw [sizeLine_eq]; decide
  refine ⟨A ++ [.lst (ns.map .int), .lst [.ref A.length, .int 0, .int 0, .int 7, .int 3]], ?_, ⟨A.length, ns, 0, 0, 7, 3, ?_, ?_, by omega, by omega⟩⟩
  · simp [bBegin, e, h5]
  · rw [List.getElem?_append_right (by omega)]
    simp
  · rw [List.getElem?_append_right (by omega)]
    simp
theorem len_seq {A : AH} {x : AV} {xs : List AV} (h : seqOf A x = some xs) : aBif .len [x] A = .ok (.int xs.length) A := by
  cases x with
  | str z => cases h
  | tup ys => cases h; rfl
  | fl ys => cases h; rfl
  | _ => simp only [aBif, h]
theorem ix_seq {A : AH} {x : AV} {xs : List AV} {i : Int} (h : seqOf A x = some xs) : aIx x (.int i) A = atI xs i := by
  cases x with
  | str z => cases h
  | _ => simp only [aIx, h, Option.bind_some]
theorem Fr.seq {d : Nat} {A A' : AH} (F : Fr d A A') {x : AV} {xs : List AV} (h : seqOf A x = some xs) (hd : x ≠ .ref d) : seqOf A' x = some xs := by
  cases x with
  | ref n =>
    have hn : n ≠ d := fun e => hd (by rw [e])
    simp only [seqOf] at h ⊢
    split at h
    · rename_i e
      cases h
      rw [F.old n (List.getElem?_eq_some_iff.mp e).1 hn, e]
    · cases h
  | _ => exact h
theorem atI_mem {xs : List AV} {v : Int} (h0 : 0 ≤ v) (h1 : v < xs.length) : ∃ x, atI xs v = some x ∧ x ∈ xs := by
  obtain ⟨n, rfl⟩ : ∃ n : Nat, v = n := ⟨v.toNat, by omega⟩
  have h2 : n < xs.length := by omega
  exact ⟨xs[n], atI_nat (List.getElem?_eq_getElem h2), List.getElem_mem h2⟩
theorem pick_ev (c : Cfg) (D : drawIs c) {A : AH} {d : Nat} {row : AV} {xs : List AV} (h : Dr A d) (hs : seqOf A row = some xs) (hd : row ≠ .ref d) (hx : xs ≠ []) (hl : xs.length < 2 ^ 62) :
    ∃ x A', (evSs c bPick [some (.ref d), some row] A).fin = .ok x A' ∧ x ∈ xs ∧ Fr d A A' := by
  have h0 : 0 < xs.length := List.length_pos_iff.mpr hx
  obtain ⟨v, A', e, h1, h2, F⟩ := D A d xs.length h (by omega) (by omega)
  obtain ⟨x, h3, h4⟩ := atI_mem h1 h2
  refine ⟨x, A', ?_, h4, F⟩
  simp [bPick, len_seq hs, e, ix_seq (F.seq hs hd), h3]
theorem rare_ev (c : Cfg) (D : drawIs c) {A : AH} {d : Nat} {many : Int} (h : Dr A d) (h0 : 0 < many) (hl : many < 2 ^ 64) :
    ∃ b A', (evSs c bRare [some (.ref d), some (.int many)] A).fin = .ok (.bl b) A' ∧ Fr d A A' := by
  obtain ⟨v, A', e, h1, h2, F⟩ := D A d many h h0 hl
  refine ⟨decide (v = many / 2), A', ?_, F⟩
  simp [bRare, e, fdiv_int _ (i := many) (j := 2) (by decide) (by decide)]
/-! ### a drawn book -/
def pairV (p : Int × Int) : AV := .tup [.int p.1, .int p.2]
def rowV (r : List (Int × Int)) : AV := .tup (r.map pairV)
def bookV (bk : List (List (Int × Int))) : AV := .tup (bk.map rowV)
structure BkOk (bk : List (List (Int × Int))) (kinds states : Nat) (lo hi : Int) : Prop where
  len : bk.length = states
  row : ∀ r ∈ bk, r.length = kinds ∧ ∀ p ∈ r, 0 ≤ p.1 ∧ p.1 < states ∧ lo ≤ p.2 ∧ p.2 ≤ hi
def cRow : L := .comp [8] (.range1 (.var 1)) (.name 8) (.lit (.bl true)) (.tup [(.call "_law_draw" [(.var 0), (.var 2)] []), (.bin .add (.var 3) (.call "_law_draw" [(.var 0), (.bin .add (.bin .sub (.var 4) (.var 3)) (.lit (.int 1)))] []))])
def bLawBook : List S := [.asg (.name 5) (.new (.disp [])),
    .for_ (.name 6) (.range1 (.var 2)) [.asg (.name 7) (.new cRow),
      .expr (.mth .append (.var 5) [(.bif .tupof [(.var 7)])])],
    .ret (.bif .tupof [(.var 5)])]
theorem range_get {n i : Nat} {x : AV} (h : ((List.range n).map fun (k : Nat) => AV.int k)[i]? = some x) : i < n ∧ x = .int i := by
  rw [List.getElem?_map] at h
  obtain ⟨j, h1, h2⟩ := Option.map_eq_some_iff.mp h
  have h3 := List.getElem?_eq_some_iff.mp h1
  obtain ⟨h4, h5⟩ := h3
  rw [List.getElem_range] at h5
  rw [List.length_range] at h4
  exact ⟨h4, by rw [← h2, ← h5]⟩
theorem size_big {n : Nat} (h : n ≤ 1000000) : n < sizeLine := by rw [sizeLine_eq]; omega
theorem crow_ev (c : Cfg) (D : drawIs c) {A : AH} {d kinds states : Nat} {low high : Int} {o5 o6 o7 o8 : Option AV} (h : Dr A d) (hk : kinds ≤ 1000) (hs0 : 0 < states) (hs : states ≤ 1000) (hlh : low ≤ high) (hb : high - low < 2 ^ 40) :
    ∃ (r : List (Int × Int)) (A' : AH), evL c cRow [some (.ref d), some (.int kinds), some (.int states), some (.int low), some (.int high), o5, o6, o7, o8] A = .ok (r.map pairV) A' ∧ Fr d A A' ∧ r.length = kinds ∧ ∀ p ∈ r, 0 ≤ p.1 ∧ p.1 < states ∧ low ≤ p.2 ∧ p.2 ≤ high := by
  unfold cRow
  rw [compN (n := kinds) (A' := A) (by simp) (by omega)]
  have lr : ((List.range kinds).map fun (k : Nat) => AV.int k).length = kinds := by simp
  obtain ⟨acc, A', h1, F, r, h2, h3, h4⟩ := comp_run (chk := (Itm.val ((List.range kinds).map fun (k : Nat) => AV.int k)).chk)
    (tg := fun x A => evTg c (.name 8) x (wipeS [some (.ref d), some (.int kinds), some (.int states), some (.int low), some (.int high), o5, o6, o7, o8] [8]) A) (q := fun σ A => (evE c (.lit (.bl true)) σ A).bind tru)
    (elt := fun σ A => evE c (.tup [(.call "_law_draw" [(.var 0), (.var 2)] []), (.bin .add (.var 3) (.call "_law_draw" [(.var 0), (.bin .add (.bin .sub (.var 4) (.var 3)) (.lit (.int 1)))] []))]) σ A)
    (xs := (List.range kinds).map fun (k : Nat) => AV.int k) (A := A)
    (fun i acc A' => Fr d A A' ∧ ∃ r : List (Int × Int), acc = r.map pairV ∧ r.length = i ∧ ∀ p ∈ r, 0 ≤ p.1 ∧ p.1 < states ∧ low ≤ p.2 ∧ p.2 ≤ high)
    ⟨Fr.refl h, [], rfl, rfl, fun p hp => by cases hp⟩ (by rw [lr]; exact Nat.le_of_lt (size_big (by omega)))
    (fun i acc A' _ ⟨_, r, e, hl, _⟩ => ⟨rfl, by rw [e, List.length_map, hl]; exact Nat.le_refl _⟩)
    (fun i x acc A1 hx ⟨F, r, e, hl, hr⟩ => by
      obtain ⟨v, A2, e1, p1, p2, F2⟩ := D A1 d states F.dr (by omega) (by omega)
      obtain ⟨u, A3, e2, q1, q2, F3⟩ := D A2 d (high - low + 1) F2.dr (by omega) (by omega)
      refine ⟨_, _, true, A1, rfl, rfl, ?_⟩
      rw [if_pos rfl]
      have h2 : 2 ≤ sizeLine := Nat.le_of_lt (size_big (by omega))
      refine ⟨.tup [.int v, .int (low + u)], A3, by simp [wipeS, e1, e2, h2], (F.trans F2).trans F3, r ++ [(v, low + u)], by rw [e]; simp [pairV], by simp [hl], fun p hp => ?_⟩
      rcases List.mem_append.mp hp with hp | hp
      · exact hr p hp
      · rw [List.mem_singleton.mp hp]
        exact ⟨p1, p2, by show low ≤ low + u; omega, by show low + u ≤ high; omega⟩)
  rw [lr] at h3
  exact ⟨r, A', by rw [← h2]; exact h1, F, h3, h4⟩
theorem append_ref {A : AH} {n : Nat} {ys : List AV} {x : AV} (h : A[n]? = some (.lst ys)) (hl : ys.length < sizeLine) : aMth .append (.ref n) [x] A = .ok .non (A.set n (.lst (ys ++ [x]))) := by
  simp only [aMth, h, if_pos hl]
theorem tupof_seq {A : AH} {x : AV} {xs : List AV} (h : seqOf A x = some xs) (hp : ∀ zs, x ≠ .pt zs := by intro _ h; cases h) : aBif .tupof [x] A = .ok (.tup xs) A := by
  cases x with
  | pt zs => exact absurd rfl (hp zs)
  | _ => simp only [aBif, h]
theorem seq_ref {A : AH} {n : Nat} {xs : List AV} (h : A[n]? = some (.lst xs)) : seqOf A (.ref n) = some xs := by simp only [seqOf, h]
theorem lbook_ev (c : Cfg) (D : drawIs c) {A : AH} {d kinds states : Nat} {low high : Int} (h : Dr A d) (hk : kinds ≤ 1000) (hs0 : 0 < states) (hs : states ≤ 1000) (hlh : low ≤ high) (hb : high - low < 2 ^ 40) :
    ∃ bk A', (evSs c bLawBook [some (.ref d), some (.int kinds), some (.int states), some (.int low), some (.int high), none, none, none, none] A).fin = .ok (bookV bk) A' ∧ BkOk bk kinds states low high ∧ Fr d A A' := by
  have hd := h.lt
  have lr : ((List.range states).map fun (k : Nat) => AV.int k).length = states := by simp
  have F0 : Fr d A (A ++ [.lst []]) := Fr.app h _
  have loop : ∃ σ' A', evS c (.for_ (.name 6) (.range1 (.var 2)) [.asg (.name 7) (.new cRow), .expr (.mth .append (.var 5) [(.bif .tupof [(.var 7)])])])
      [some (.ref d), some (.int kinds), some (.int states), some (.int low), some (.int high), some (.ref A.length), none, none, none] (A ++ [.lst []]) = .next σ' A' ∧
      ∃ (bk : List (List (Int × Int))) (o6 o7 o8 : Option AV), σ' = [some (.ref d), some (.int kinds), some (.int states), some (.int low), some (.int high), some (.ref A.length), o6, o7, o8] ∧ Fr d A A' ∧ A'[A.length]? = some (.lst (bk.map rowV)) ∧ bk.length = states ∧
        ∀ r ∈ bk, r.length = kinds ∧ ∀ p ∈ r, 0 ≤ p.1 ∧ p.1 < states ∧ low ≤ p.2 ∧ p.2 ≤ high := by
    rw [forN (n := states) (by simp) (by omega)]
    obtain ⟨σ', A', h1, h2⟩ := for_end (chk := (Itm.val ((List.range states).map fun (k : Nat) => AV.int k)).chk) (tg := fun x σ A => evTg c (.name 6) x σ A)
      (body := fun σ A => evSs c [.asg (.name 7) (.new cRow), .expr (.mth .append (.var 5) [(.bif .tupof [(.var 7)])])] σ A) (xs := (List.range states).map fun (k : Nat) => AV.int k)
      (σ := [some (.ref d), some (.int kinds), some (.int states), some (.int low), some (.int high), some (.ref A.length), none, none, none]) (A := A ++ [.lst []])
      (fun i σ' A' => ∃ (bk : List (List (Int × Int))) (o6 o7 o8 : Option AV), σ' = [some (.ref d), some (.int kinds), some (.int states), some (.int low), some (.int high), some (.ref A.length), o6, o7, o8] ∧ Fr d A A' ∧ A'[A.length]? = some (.lst (bk.map rowV)) ∧ bk.length = i ∧
        ∀ r ∈ bk, r.length = kinds ∧ ∀ p ∈ r, 0 ≤ p.1 ∧ p.1 < states ∧ low ≤ p.2 ∧ p.2 ≤ high)
      ⟨[], none, none, none, rfl, F0, by simp, rfl, fun r hr => by cases hr⟩ (fun _ _ _ _ _ => rfl) (fun i x σ A1 hx ⟨bk, o6, o7, o8, e, F, hA, hl, hr⟩ => by
        subst e
        obtain ⟨hi, rfl⟩ := range_get hx
        refine ⟨_, _, rfl, ?_⟩
        obtain ⟨r, A2, e1, F2, hr1, hr2⟩ := crow_ev c D (o5 := some (.ref A.length)) (o6 := some (.int i)) (o7 := o7) (o8 := o8) F.dr hk hs0 hs hlh hb
        have hAl : A.length < A1.length := (List.getElem?_eq_some_iff.mp hA).1
        have hA2 : A2[A.length]? = some (.lst (bk.map rowV)) := by rw [F2.old _ hAl (by omega)]; exact hA
        have hA2l : A.length < A2.length := (List.getElem?_eq_some_iff.mp hA2).1
        have F3 : Fr d A (A2 ++ [.lst (r.map pairV)]) := (F.trans F2).trans (Fr.app F2.dr _)
        have hA3 : (A2 ++ [AO.lst (r.map pairV)])[A.length]? = some (.lst (bk.map rowV)) := by rw [List.getElem?_append_left hA2l]; exact hA2
        have hn : (A2 ++ [AO.lst (r.map pairV)])[A2.length]? = some (.lst (r.map pairV)) := by simp
        have hz : (bk.map rowV).length < sizeLine := by rw [List.length_map]; exact size_big (by omega)
        refine ⟨[some (.ref d), some (.int kinds), some (.int states), some (.int low), some (.int high), some (.ref A.length), some (.int i), some (.ref A2.length), o8], (A2 ++ [AO.lst (r.map pairV)]).set A.length (.lst (bk.map rowV ++ [.tup (r.map pairV)])), ?_, bk ++ [r], _, _, _, rfl, F3.setNew hd (Nat.le_refl _) _, ?_, by simp [hl], fun r' hr' => ?_⟩
        · simp [e1, mthTy_ref hA3, tupof_seq (seq_ref hn), append_ref hA3 hz]
        · rw [List.getElem?_set_self (by simp; omega)]; simp [rowV]
        · rcases List.mem_append.mp hr' with h | h
          · exact hr r' h
          · rw [List.mem_singleton.mp h]
            exact ⟨hr1, hr2⟩)
    rw [lr] at h2
    exact ⟨σ', A', h1, h2⟩
  obtain ⟨σ', A', h1, bk, o6, o7, o8, rfl, F, hA, hl, hr⟩ := loop
  refine ⟨bk, A', ?_, ⟨hl, hr⟩, F⟩
  simp [bLawBook, h1, tupof_seq (seq_ref hA), bookV]
end Ev


set_option linter.all false
set_option maxRecDepth 100000
set_option maxHeartbeats 4000000
namespace Ev
open PySem L2

/-! ### walks through a book -/
def nx (bk : List (List (Int × Int))) (s k : Int) : Int × Int := (bk.getD s.toNat []).getD k.toNat (0, 0)
def stOf (bk : List (List (Int × Int))) : Int → List Int → Int
  | s, [] => s | s, k :: r => stOf bk (nx bk s k).1 r
def adOf (bk : List (List (Int × Int))) : Int → List Int → List Int
  | _, [] => [] | s, k :: r => (nx bk s k).2 :: adOf bk (nx bk s k).1 r
theorem stOf_snoc (bk) (k : Int) : ∀ (l : List Int) (s : Int), stOf bk s (l ++ [k]) = (nx bk (stOf bk s l) k).1
  | [], _ => rfl
  | _ :: r, _ => stOf_snoc bk k r _
theorem adOf_snoc (bk) (k : Int) : ∀ (l : List Int) (s : Int), adOf bk s (l ++ [k]) = adOf bk s l ++ [(nx bk (stOf bk s l) k).2]
  | [], _ => rfl
  | x :: r, s => by
    show _ :: adOf bk _ (r ++ [k]) = _
    rw [adOf_snoc bk k r]
    rfl
theorem adOf_len (bk) : ∀ (l : List Int) (s : Int), (adOf bk s l).length = l.length
  | [], _ => rfl
  | x :: r, s => by
    show (adOf bk _ r).length + 1 = r.length + 1
    rw [adOf_len bk r]
theorem take_succ' {xs : List Int} {i : Nat} {k : Int} (h : xs[i]? = some k) : xs.take (i + 1) = xs.take i ++ [k] := by
  rw [List.take_succ, h]; rfl
def inB (row : List Int) (kinds : Nat) : Prop := ∀ k ∈ row, 0 ≤ k ∧ k < kinds
def rowI (row : List Int) : AV := .tup (row.map .int)
theorem nx_ok {bk : List (List (Int × Int))} {kinds states : Nat} {lo hi s k : Int} (h : BkOk bk kinds states lo hi) (h0 : 0 ≤ s) (h1 : s < states) (h2 : 0 ≤ k) (h3 : k < kinds) (A : AH) :
    ∃ r, aIx (bookV bk) (.int s) A = some (rowV r) ∧ aIx (rowV r) (.int k) A = some (pairV (nx bk s k)) ∧ 0 ≤ (nx bk s k).1 ∧ (nx bk s k).1 < states := by
  obtain ⟨n, rfl⟩ : ∃ n : Nat, s = n := ⟨s.toNat, by omega⟩
  obtain ⟨j, rfl⟩ : ∃ j : Nat, k = j := ⟨k.toNat, by omega⟩
  have hn : n < bk.length := by rw [h.len]; omega
  obtain ⟨hr, hp⟩ := h.row bk[n] (List.getElem_mem hn)
  have hj : j < bk[n].length := by rw [hr]; omega
  have e : nx bk n j = bk[n][j] := by
    unfold nx
    simp [List.getD_eq_getElem?_getD, hn, hj]
  refine ⟨bk[n], ?_, ?_, ?_⟩
  · exact atI_nat (by rw [List.getElem?_map, List.getElem?_eq_getElem hn]; rfl)
  · rw [e]; exact atI_nat (by rw [List.getElem?_map, List.getElem?_eq_getElem hj]; rfl)
  · rw [e]
    have := hp _ (List.getElem_mem hj)
    exact ⟨this.1, this.2.1⟩
theorem stOf_ok {bk : List (List (Int × Int))} {kinds states : Nat} {lo hi : Int} (h : BkOk bk kinds states lo hi) : ∀ (l : List Int) (s : Int), inB l kinds → 0 ≤ s → s < states → 0 ≤ stOf bk s l ∧ stOf bk s l < states
  | [], s, _, h0, h1 => ⟨h0, h1⟩
  | k :: r, s, hr, h0, h1 => by
    obtain ⟨_, _, _, q1, q2⟩ := nx_ok h h0 h1 (hr k (by simp)).1 (hr k (by simp)).2 []
    exact stOf_ok h r _ (fun x hx => hr x (List.mem_cons_of_mem _ hx)) q1 q2
theorem inB.take {row : List Int} {kinds : Nat} (h : inB row kinds) (i : Nat) : inB (row.take i) kinds := fun k hk => h k (List.mem_of_mem_take hk)
def bCost : List S := [.asg (.name 2) (.lit (.int 0)),
    .asg (.name 3) (.lit (.int 0)),
    .for_ (.name 4) (.v (.var 1)) [.asg (.tup [(.name 2), (.name 5)]) (.ix (.ix (.var 0) (.var 2)) (.var 4)),
      .aug 3 .add (.var 5)],
    .ret (.var 3)]
def bAfter : List S := [.asg (.name 2) (.lit (.int 0)),
    .for_ (.name 3) (.v (.var 1)) [.asg (.name 2) (.ix (.ix (.ix (.var 0) (.var 2)) (.var 3)) (.lit (.int 0)))],
    .ret (.var 2)]
def bAdds : List S := [.asg (.name 2) (.lit (.int 0)),
    .asg (.name 3) (.new (.disp [])),
    .for_ (.name 4) (.v (.var 1)) [.asg (.tup [(.name 2), (.name 5)]) (.ix (.ix (.var 0) (.var 2)) (.var 4)),
      .expr (.mth .append (.var 3) [(.var 5)])],
    .ret (.bif .tupof [(.var 3)])]
section
variable {bk : List (List (Int × Int))} {kinds states : Nat} {lo hi : Int} {row : List Int}
theorem row_get {i : Nat} {x : AV} (h : (row.map AV.int)[i]? = some x) : ∃ k, row[i]? = some k ∧ x = .int k := by
  rw [List.getElem?_map] at h
  obtain ⟨k, h1, h2⟩ := Option.map_eq_some_iff.mp h
  exact ⟨k, h1, h2.symm⟩
theorem sum_snoc (l : List Int) (x : Int) : (l ++ [x]).sum = l.sum + x := by
  rw [List.sum_append]; simp
theorem cost_ev (c : Cfg) (A : AH) (h : BkOk bk kinds states lo hi) (hs : 0 < states) (hr : inB row kinds) : (evSs c bCost [some (bookV bk), some (rowI row), none, none, none, none] A).fin = .ok (.int (adOf bk 0 row).sum) A := by
  have loop : ∃ σ' A', evS c (.for_ (.name 4) (.v (.var 1)) [.asg (.tup [(.name 2), (.name 5)]) (.ix (.ix (.var 0) (.var 2)) (.var 4)), .aug 3 .add (.var 5)]) [some (bookV bk), some (rowI row), some (.int 0), some (.int 0), none, none] A = .next σ' A' ∧
      A' = A ∧ ∃ o4 o5, σ' = [some (bookV bk), some (rowI row), some (.int (stOf bk 0 (row.take (row.map AV.int).length))), some (.int (adOf bk 0 (row.take (row.map AV.int).length)).sum), o4, o5] := by
    rw [forV (xs := row.map .int) rfl]
    exact for_end (fun i σ' A' => A' = A ∧ ∃ o4 o5, σ' = [some (bookV bk), some (rowI row), some (.int (stOf bk 0 (row.take i))), some (.int (adOf bk 0 (row.take i)).sum), o4, o5])
      ⟨rfl, _, _, rfl⟩ (fun _ _ _ _ _ => rfl) (fun i x σ A1 hx ⟨e, o4, o5, e2⟩ => by
        subst e; subst e2
        obtain ⟨k, hk, rfl⟩ := row_get hx
        have hin := hr k (List.mem_of_getElem? hk)
        obtain ⟨q1, q2⟩ := stOf_ok h (row.take i) 0 (hr.take i) (Int.le_refl 0) (by omega)
        obtain ⟨r, i1, i2, _, _⟩ := nx_ok h q1 q2 hin.1 hin.2 A1
        refine ⟨_, _, rfl, [some (bookV bk), some (rowI row), some (.int (nx bk (stOf bk 0 (row.take i)) k).1), some (.int ((adOf bk 0 (row.take i)).sum + (nx bk (stOf bk 0 (row.take i)) k).2)), some (.int k), some (.int (nx bk (stOf bk 0 (row.take i)) k).2)], A1, by simp [i1, i2, pairV], rfl, some (.int k), some (.int (nx bk (stOf bk 0 (row.take i)) k).2), ?_⟩
        rw [take_succ' hk, stOf_snoc, adOf_snoc, sum_snoc])
  obtain ⟨σ', A', h1, rfl, o4, o5, rfl⟩ := loop
  simp [bCost, h1]
theorem after_ev (c : Cfg) (A : AH) (h : BkOk bk kinds states lo hi) (hs : 0 < states) (hr : inB row kinds) : (evSs c bAfter [some (bookV bk), some (rowI row), none, none] A).fin = .ok (.int (stOf bk 0 row)) A := by
  have loop : ∃ σ' A', evS c (.for_ (.name 3) (.v (.var 1)) [.asg (.name 2) (.ix (.ix (.ix (.var 0) (.var 2)) (.var 3)) (.lit (.int 0)))]) [some (bookV bk), some (rowI row), some (.int 0), none] A = .next σ' A' ∧
      A' = A ∧ ∃ o4, σ' = [some (bookV bk), some (rowI row), some (.int (stOf bk 0 (row.take (row.map AV.int).length))), o4] := by
    rw [forV (xs := row.map .int) rfl]
    exact for_end (fun i σ' A' => A' = A ∧ ∃ o4, σ' = [some (bookV bk), some (rowI row), some (.int (stOf bk 0 (row.take i))), o4])
      ⟨rfl, _, rfl⟩ (fun _ _ _ _ _ => rfl) (fun i x σ A1 hx ⟨e, o4, e2⟩ => by
        subst e; subst e2
        obtain ⟨k, hk, rfl⟩ := row_get hx
        have hin := hr k (List.mem_of_getElem? hk)
        obtain ⟨q1, q2⟩ := stOf_ok h (row.take i) 0 (hr.take i) (Int.le_refl 0) (by omega)
        obtain ⟨r, i1, i2, _, _⟩ := nx_ok h q1 q2 hin.1 hin.2 A1
        refine ⟨_, _, rfl, [some (bookV bk), some (rowI row), some (.int (nx bk (stOf bk 0 (row.take i)) k).1), some (.int k)], A1, by simp [i1, i2, pairV, ixTup, atI0], rfl, some (.int k), ?_⟩
        rw [take_succ' hk, stOf_snoc])
  obtain ⟨σ', A', h1, rfl, o4, rfl⟩ := loop
  simp [bAfter, h1]
/-- found: the list at n -/
theorem addsLoop (c : Cfg) (A : AH) (n i2 i3 i4 i5 : Nat) (h : BkOk bk kinds states lo hi) (hs : 0 < states) (hr : inB row kinds) (hz : row.length ≤ 1000000) (tl : List (Option AV)) (o4 o5 : Option AV) (hA : A[n]? = some (.lst [])) (e4 : i2 = 2 ∧ i3 = 3 ∧ i4 = 4 ∧ i5 = 5) :
    ∃ o4' o5', evS c (.for_ (.name i4) (.v (.var 1)) [.asg (.tup [(.name i2), (.name i5)]) (.ix (.ix (.var 0) (.var i2)) (.var i4)), .expr (.mth .append (.var i3) [(.var i5)])]) ([some (bookV bk), some (rowI row), some (.int 0), some (.ref n), o4, o5] ++ tl) A =
      .next ([some (bookV bk), some (rowI row), some (.int (stOf bk 0 row)), some (.ref n), o4', o5'] ++ tl) (A.set n (.lst ((adOf bk 0 row).map .int))) := by
  obtain ⟨rfl, rfl, rfl, rfl⟩ := e4
  have hn : n < A.length := (List.getElem?_eq_some_iff.mp hA).1
  have loop : ∃ σ' A', evS c (.for_ (.name 4) (.v (.var 1)) [.asg (.tup [(.name 2), (.name 5)]) (.ix (.ix (.var 0) (.var 2)) (.var 4)), .expr (.mth .append (.var 3) [(.var 5)])]) ([some (bookV bk), some (rowI row), some (.int 0), some (.ref n), o4, o5] ++ tl) A = .next σ' A' ∧
      A' = A.set n (.lst ((adOf bk 0 (row.take (row.map AV.int).length)).map .int)) ∧ ∃ o4 o5, σ' = [some (bookV bk), some (rowI row), some (.int (stOf bk 0 (row.take (row.map AV.int).length))), some (.ref n), o4, o5] ++ tl := by
    rw [forV (xs := row.map .int) rfl]
    exact for_end (fun i σ' A' => A' = A.set n (.lst ((adOf bk 0 (row.take i)).map .int)) ∧ ∃ o4 o5, σ' = [some (bookV bk), some (rowI row), some (.int (stOf bk 0 (row.take i))), some (.ref n), o4, o5] ++ tl)
      ⟨by simp [adOf, ← (List.getElem?_eq_some_iff.mp hA).2], _, _, rfl⟩ (fun _ _ _ _ _ => rfl) (fun i x σ A1 hx ⟨e, o4, o5, e2⟩ => by
        subst e2
        obtain ⟨k, hk, rfl⟩ := row_get hx
        have hin := hr k (List.mem_of_getElem? hk)
        obtain ⟨q1, q2⟩ := stOf_ok h (row.take i) 0 (hr.take i) (Int.le_refl 0) (by omega)
        obtain ⟨r, i1, i2, _, _⟩ := nx_ok h q1 q2 hin.1 hin.2 A1
        have hA1 : A1[n]? = some (.lst ((adOf bk 0 (row.take i)).map .int)) := by rw [e, List.getElem?_set_self hn]
        have hl : ((adOf bk 0 (row.take i)).map AV.int).length < sizeLine := by
          rw [List.length_map, adOf_len, List.length_take]
          exact size_big (by omega)
        refine ⟨_, _, rfl, [some (bookV bk), some (rowI row), some (.int (nx bk (stOf bk 0 (row.take i)) k).1), some (.ref n), some (.int k), some (.int (nx bk (stOf bk 0 (row.take i)) k).2)] ++ tl, A1.set n (.lst ((adOf bk 0 (row.take i)).map .int ++ [.int (nx bk (stOf bk 0 (row.take i)) k).2])), by simp [i1, i2, pairV, mthTy_ref hA1, append_ref hA1 hl], ?_, some (.int k), some (.int (nx bk (stOf bk 0 (row.take i)) k).2), ?_⟩
        · rw [take_succ' hk, adOf_snoc, e, List.set_set, List.map_append]; rfl
        · rw [take_succ' hk, stOf_snoc])
  obtain ⟨σ', A', h1, rfl, o4, o5, rfl⟩ := loop
  refine ⟨o4, o5, ?_⟩
  rw [h1]
  simp
theorem adds_ev (c : Cfg) (A : AH) (h : BkOk bk kinds states lo hi) (hs : 0 < states) (hr : inB row kinds) (hz : row.length ≤ 1000000) : ∃ G, (evSs c bAdds [some (bookV bk), some (rowI row), none, none, none, none] A).fin = .ok (.tup ((adOf bk 0 row).map .int)) (A ++ G) := by
  have hA : (A ++ [AO.lst []])[A.length]? = some (.lst []) := by simp
  obtain ⟨o4, o5, h1⟩ := addsLoop c (A ++ [.lst []]) A.length 2 3 4 5 h hs hr hz [] none none hA ⟨rfl, rfl, rfl, rfl⟩
  simp only [List.append_nil] at h1
  have e : (A ++ [AO.lst []]).set A.length (.lst ((adOf bk 0 row).map .int)) = A ++ [.lst ((adOf bk 0 row).map .int)] := by simp
  rw [e] at h1
  have hB : (A ++ [AO.lst ((adOf bk 0 row).map AV.int)])[A.length]? = some (.lst ((adOf bk 0 row).map .int)) := by simp
  exact ⟨[.lst ((adOf bk 0 row).map AV.int)], by simp [bAdds, h1, tupof_seq (seq_ref hB)]⟩
end
end Ev


set_option Elab.async false
set_option linter.all false
set_option maxRecDepth 100000
set_option maxHeartbeats 4000000
namespace Law
open PySem PySem.Spec PyProof.Rows L2 Ev

def topS (i : Nat) : Stmt := PySem.Challenge.pw_outlaypact_k09_atoms.main.body.getD i (.Pass ⟨0, 0, 0, 0⟩)
def b_such_members : List S := [.asg (.name 3) (.new (.comp [4] (.v (.var 1)) (.name 4) (.lit (.bl true)) (.mth .index1 (.var 0) [(.var 4)]))),
    .ret (.lf .tups (.comp [5] (.v (.var 2)) (.name 5) (.cmp .in_ (.var 5) (.var 3)) (.var 5)))]
def e_such_members : Ent := ⟨"such_members", ["kinds", "names", "row", "wanted", "name", "kind"], ["kinds", "names", "row"], [[]], 46, 78, b_such_members⟩
def b_top_meaning : List S := [.asg (.name 3) (.lit (.int 0)),
    .for_ (.tup [(.name 4), (.name 5)]) (.v (.var 1)) [.if_ (.cmp .in_ (.mth .index1 (.var 0) [(.var 4)]) (.var 2)) [.asg (.name 3) (.bif .max2 [(.var 3), (.var 5)])] []],
    .ret (.var 3)]
def e_top_meaning : Ent := ⟨"top_meaning", ["kinds", "pairs", "row", "best", "name", "n"], ["kinds", "pairs", "row"], [[]], 46, 79, b_top_meaning⟩
def b_stair_meaning : List S := [.asg (.name 2) (.lit (.int 0)),
    .for_ (.name 3) (.range1 (.var 1)) [.aug 2 .add (.ix (.var 0) (.bif .min2 [(.var 3), (.bin .sub (.bif .len [(.var 0)]) (.lit (.int 1)))]))],
    .ret (.var 2)]
def e_stair_meaning : Ent := ⟨"stair_meaning", ["numbers", "many", "found", "k"], ["numbers", "many"], [[]], 48, 81, b_stair_meaning⟩
def b_link_meaning : List S := [.asg (.name 4) (.lit (.int 0)),
    .for_ (.name 5) (.range2 (.lit (.int 1)) (.bif .len [(.var 3)])) [.if_ (.and (.cmp .eq (.ix (.var 3) (.bin .sub (.var 5) (.lit (.int 1)))) (.var 0)) (.cmp .eq (.ix (.var 3) (.var 5)) (.var 1))) [.aug 4 .add (.var 2)] []],
    .ret (.var 4)]
def e_link_meaning : Ent := ⟨"link_meaning", ["first", "second", "n", "row", "found", "k"], ["first", "second", "n", "row"], [[]], 48, 81, b_link_meaning⟩
def b_atom_meaning : List S := [.asg (.name 3) (.ix (.var 1) (.lit (.int 0))),
    .if_ (.cmp .eq (.var 3) (.lit (.str "top"))) [.ret (.call "top_meaning" [(.var 0), (.ix (.var 1) (.lit (.int 1))), (.var 2)] [])] [],
    .if_ (.cmp .eq (.var 3) (.lit (.str "link"))) [.ret (.call "link_meaning" [(.mth .index1 (.var 0) [(.ix (.var 1) (.lit (.int 1)))]), (.mth .index1 (.var 0) [(.ix (.var 1) (.lit (.int 2)))]), (.ix (.var 1) (.lit (.int 3))), (.var 2)] [])] [],
    .if_ (.cmp .eq (.var 3) (.lit (.str "sum"))) [.ret (.call "meaning_of" [(.var 0), (.ix (.var 1) (.lit (.int 1))), (.var 2)] [])] [],
    .if_ (.cmp .eq (.var 3) (.lit (.str "only"))) [.ret (.call "meaning_of" [(.var 0), (.ix (.var 1) (.lit (.int 2))), (.call "such_members" [(.var 0), (.ix (.var 1) (.lit (.int 1))), (.var 2)] [])] [])] [],
    .if_ (.cmp .eq (.var 3) (.lit (.str "stair"))) [.ret (.call "stair_meaning" [(.ix (.var 1) (.lit (.int 2))), (.bif .len [(.call "such_members" [(.var 0), (.ix (.var 1) (.lit (.int 1))), (.var 2)] [])])] [])] [],
    .asg (.name 4) (.bif .len [(.call "such_members" [(.var 0), (.ix (.var 1) (.lit (.int 2))), (.var 2)] [])]),
    .if_ (.cmp .eq (.var 3) (.lit (.str "fee"))) [.ret (.bin .mul (.ix (.var 1) (.lit (.int 1))) (.bif .min2 [(.var 4), (.lit (.int 1))]))] [],
    .if_ (.cmp .eq (.var 3) (.lit (.str "each"))) [.ret (.bin .mul (.ix (.var 1) (.lit (.int 1))) (.var 4))] [],
    .ret (.bin .mul (.ix (.var 1) (.lit (.int 3))) (.bin .fdiv (.bin .sub (.bin .add (.var 4) (.ix (.var 1) (.lit (.int 1)))) (.lit (.int 1))) (.ix (.var 1) (.lit (.int 1)))))]
def e_atom_meaning : Ent := ⟨"atom_meaning", ["kinds", "atom", "row", "word", "many"], ["kinds", "atom", "row"], [[]], 48, 88, b_atom_meaning⟩
def b_meaning_of : List S := [.asg (.name 3) (.lit (.int 0)),
    .for_ (.tup [(.name 4), (.name 5)]) (.v (.var 1)) [.aug 3 .add (.bin .mul (.var 4) (.call "atom_meaning" [(.var 0), (.var 5), (.var 2)] []))],
    .ret (.var 3)]
def e_meaning_of : Ent := ⟨"meaning_of", ["kinds", "cost", "row", "found", "factor", "atom"], ["kinds", "cost", "row"], [[]], 44, 77, b_meaning_of⟩
def b__law_begin : List S := [.ret (.new (.disp [(.new (.comp [1] (.v (.var 0)) (.name 1) (.lit (.bl true)) (.bif .int_ [(.var 1)]))), (.lit (.int 0)), (.lit (.int 0)), (.lit (.int 7)), (.lit (.int 3))]))]
def e__law_begin : Ent := ⟨"_law_begin", ["script", "cell"], ["script"], [[]], 44, 75, b__law_begin⟩
def b__law_draw : List S := [.if_ (.cmp .gt (.ix (.var 0) (.lit (.int 2))) (.lit (.int 0))) [.asg (.name 2) (.ix (.var 0) (.lit (.int 2))),
      .asg (.sub (.var 0) (.lit (.int 2))) (.bin .fdiv (.var 2) (.var 1)),
      .ret (.bin .mod (.bif .int_ [(.var 2)]) (.var 1))] [],
    .asg (.name 3) (.lit (.int 0)),
    .if_ (.cmp .lt (.ix (.var 0) (.lit (.int 1))) (.bif .len [(.ix (.var 0) (.lit (.int 0)))])) [.asg (.name 4) (.ix (.ix (.var 0) (.lit (.int 0))) (.ix (.var 0) (.lit (.int 1)))),
      .asg (.name 3) (.bin .add (.bin .mul (.lit (.int 2)) (.bif .abs [(.var 4)])) (.bif .int_ [(.cmp .lt (.var 4) (.lit (.int 0)))]))] [],
    .augs (.var 0) (.lit (.int 1)) .add (.lit (.int 1)),
    .if_ (.cmp .ge (.var 3) (.bin .mul (.lit (.int 2)) (.bin .pow (.lit (.int 10)) (.lit (.int 18))))) [.asg (.name 2) (.bin .mod (.bif .int_ [(.bin .fdiv (.var 3) (.lit (.int 2)))]) (.bin .shl (.lit (.int 1)) (.lit (.int 6000)))),
      .asg (.sub (.var 0) (.lit (.int 2))) (.bin .fdiv (.var 2) (.var 1)),
      .ret (.bin .mod (.bif .int_ [(.var 2)]) (.var 1))] [],
    .asg (.sub (.var 0) (.lit (.int 3))) (.bin .mod (.bif .int_ [(.bin .add (.bin .add (.bin .add (.bin .mul (.ix (.var 0) (.lit (.int 3))) (.lit (.int 48271))) (.bin .mul (.bin .mod (.bif .int_ [(.var 3)]) (.lit (.int 2147483629))) (.lit (.int 16807)))) (.bin .mul (.ix (.var 0) (.lit (.int 1))) (.lit (.int 69621)))) (.lit (.int 11)))]) (.lit (.int 2147483647))),
    .ret (.bin .mod (.bif .int_ [(.bin .fdiv (.ix (.var 0) (.lit (.int 3))) (.lit (.int 16)))]) (.var 1))]
def e__law_draw : Ent := ⟨"_law_draw", ["d", "many", "found", "size", "cell"], ["d", "many"], [[]], 54, 91, b__law_draw⟩
def b__law_pick : List S := [.ret (.ix (.var 1) (.call "_law_draw" [(.var 0), (.bif .len [(.var 1)])] []))]
def e__law_pick : Ent := ⟨"_law_pick", ["d", "row"], ["d", "row"], [[]], 44, 75, b__law_pick⟩
def b__law_pop : List S := [.ret (.mth .pop1 (.var 1) [(.call "_law_draw" [(.var 0), (.bif .len [(.var 1)])] [])])]
def e__law_pop : Ent := ⟨"_law_pop", ["d", "row"], ["d", "row"], [[]], 44, 75, b__law_pop⟩
def b__law_rare : List S := [.ret (.cmp .eq (.call "_law_draw" [(.var 0), (.var 1)] []) (.bin .fdiv (.var 1) (.lit (.int 2))))]
def e__law_rare : Ent := ⟨"_law_rare", ["d", "many"], ["d", "many"], [[]], 42, 73, b__law_rare⟩
def b__law_shuffled : List S := [.asg (.name 2) (.bif .listof [(.var 1)]),
    .asg (.name 3) (.new (.disp [])),
    .for_ (.name 4) (.range1 (.bif .len [(.var 2)])) [.expr (.mth .append (.var 3) [(.mth .pop1 (.var 2) [(.call "_law_draw" [(.var 0), (.bif .len [(.var 2)])] [])])])],
    .ret (.var 3)]
def e__law_shuffled : Ent := ⟨"_law_shuffled", ["d", "row", "left", "found", "k"], ["d", "row"], [[]], 48, 82, b__law_shuffled⟩
def b__law_pool : List S := [.asg (.name 0) (.lit (.str "a pump shore mill c road well ab hill zz crew bay tower q dock lane ferry gate weir farm sluice cliff ")),
    .asg (.name 0) (.bin .add (.var 0) (.lit (.str "x moor n kiln harbour m barn pier s yard fold bridge copse t meadow u"))),
    .ret (.mth .split1 (.var 0) [(.lit (.str " "))])]
def e__law_pool : Ent := ⟨"_law_pool", ["text"], [], [[]], 42, 75, b__law_pool⟩
def b__law_is_int : List S := [.ret (.and (.bif .isinst [(.var 0), (.lit (.ty "int"))]) (.not (.bif .isinst [(.var 0), (.lit (.ty "bool"))])))]
def e__law_is_int : Ent := ⟨"_law_is_int", ["thing"], ["thing"], [[]], 44, 75, b__law_is_int⟩
def b__law_some_names : List S := [.asg (.name 2) (.call "_law_shuffled" [(.var 0), (.bif .listof [(.var 1)])] []),
    .ret (.bif .tupofs [(.sl (.var 2) none (some (.bin .add (.lit (.int 1)) (.call "_law_draw" [(.var 0), (.bif .len [(.var 2)])] []))))])]
def e__law_some_names : Ent := ⟨"_law_some_names", ["d", "kinds", "row"], ["d", "kinds"], [[]], 50, 82, b__law_some_names⟩
def b__law_number : List S := [.ret (.ite (.cmp .eq (.call "_law_draw" [(.var 0), (.lit (.int 2))] []) (.lit (.int 0))) (.call "_law_draw" [(.var 0), (.lit (.int 10))] []) (.call "_law_draw" [(.var 0), (.lit (.int 10000))] []))]
def e__law_number : Ent := ⟨"_law_number", ["d"], ["d"], [[]], 44, 75, b__law_number⟩
def b__law_factor : List S := [.asg (.name 1) (.bin .add (.lit (.int 1)) (.ite (.cmp .gt (.call "_law_draw" [(.var 0), (.lit (.int 3))] []) (.lit (.int 0))) (.call "_law_draw" [(.var 0), (.lit (.int 4))] []) (.call "_law_draw" [(.var 0), (.lit (.int 9999))] []))),
    .ret (.ite (.cmp .eq (.call "_law_draw" [(.var 0), (.lit (.int 3))] []) (.lit (.int 1))) (.neg (.var 1)) (.var 1))]
def e__law_factor : Ent := ⟨"_law_factor", ["d", "factor"], ["d"], [[]], 46, 78, b__law_factor⟩
def b__law_plain : List S := [.asg (.name 3) (.call "_law_some_names" [(.var 0), (.var 1)] []),
    .if_ (.cmp .eq (.var 2) (.lit (.int 0))) [.ret (.tup [(.lit (.str "fee")), (.call "_law_number" [(.var 0)] []), (.var 3)])] [],
    .if_ (.cmp .eq (.var 2) (.lit (.int 1))) [.ret (.tup [(.lit (.str "each")), (.call "_law_number" [(.var 0)] []), (.var 3)])] [],
    .if_ (.cmp .eq (.var 2) (.lit (.int 2))) [.ret (.tup [(.lit (.str "top")), (.lf .tups (.comp [4] (.v (.var 3)) (.name 4) (.lit (.bl true)) (.tup [(.var 4), (.call "_law_number" [(.var 0)] [])])))])] [],
    .if_ (.cmp .eq (.var 2) (.lit (.int 3))) [.asg (.name 5) (.bin .add (.lit (.int 1)) (.ite (.cmp .gt (.call "_law_draw" [(.var 0), (.lit (.int 4))] []) (.lit (.int 0))) (.call "_law_draw" [(.var 0), (.lit (.int 5))] []) (.call "_law_draw" [(.var 0), (.lit (.int 9999))] []))),
      .ret (.tup [(.lit (.str "pack")), (.var 5), (.var 3), (.call "_law_number" [(.var 0)] [])])] [],
    .if_ (.cmp .eq (.var 2) (.lit (.int 4))) [.asg (.name 5) (.bin .add (.lit (.int 1)) (.call "_law_draw" [(.var 0), (.lit (.int 6))] [])),
      .if_ (.call "_law_rare" [(.var 0), (.lit (.int 5))] []) [.asg (.name 5) (.lit (.int 40))] [],
      .ret (.tup [(.lit (.str "stair")), (.var 3), (.lf .tups (.comp [6] (.range1 (.var 5)) (.name 6) (.lit (.bl true)) (.call "_law_number" [(.var 0)] [])))])] [],
    .ret (.tup [(.lit (.str "link")), (.call "_law_pick" [(.var 0), (.bif .listof [(.var 1)])] []), (.call "_law_pick" [(.var 0), (.bif .listof [(.var 1)])] []), (.call "_law_number" [(.var 0)] [])])]
def e__law_plain : Ent := ⟨"_law_plain", ["d", "kinds", "way", "names", "name", "size", "k"], ["d", "kinds", "way"], [[]], 50, 87, b__law_plain⟩
def b__law_atoms : List S := [.asg (.name 2) (.new (.comp [3] (.range1 (.lit (.int 6))) (.name 3) (.lit (.bl true)) (.call "_law_plain" [(.var 0), (.var 1), (.var 3)] []))),
    .asg (.name 4) (.tup [(.tup [(.call "_law_factor" [(.var 0)] []), (.call "_law_plain" [(.var 0), (.var 1), (.lit (.int 5))] [])]), (.tup [(.call "_law_factor" [(.var 0)] []), (.call "_law_plain" [(.var 0), (.var 1), (.call "_law_draw" [(.var 0), (.lit (.int 6))] [])] [])])]),
    .expr (.mth .append (.var 2) [(.tup [(.lit (.str "only")), (.call "_law_some_names" [(.var 0), (.var 1)] []), (.var 4)])]),
    .expr (.mth .append (.var 2) [(.tup [(.lit (.str "sum")), (.tup [(.tup [(.call "_law_factor" [(.var 0)] []), (.ix (.var 2) (.call "_law_draw" [(.var 0), (.lit (.int 6))] []))]), (.tup [(.call "_law_factor" [(.var 0)] []), (.ix (.var 2) (.lit (.int 6)))])])])]),
    .expr (.mth .append (.var 2) [(.tup [(.lit (.str "only")), (.call "_law_some_names" [(.var 0), (.var 1)] []), (.tup [(.tup [(.call "_law_factor" [(.var 0)] []), (.ix (.var 2) (.lit (.int 7)))])])])]),
    .ret (.var 2)]
def e__law_atoms : Ent := ⟨"_law_atoms", ["d", "kinds", "found", "way", "inner"], ["d", "kinds"], [[]], 50, 86, b__law_atoms⟩
def b__law_members : List S := [.ret (.lf .tups (.comp [3] (.v (.var 2)) (.name 3) (.cmp .in_ (.ix (.var 0) (.var 3)) (.var 1)) (.var 3)))]
def e__law_members : Ent := ⟨"_law_members", ["kinds", "names", "row", "kind"], ["kinds", "names", "row"], [[]], 48, 79, b__law_members⟩
def b__law_walked_top : List S := [.asg (.name 3) (.lit (.int 0)),
    .for_ (.name 4) (.v (.var 2)) [.for_ (.tup [(.name 5), (.name 6)]) (.v (.var 1)) [.if_ (.and (.cmp .eq (.var 5) (.ix (.var 0) (.var 4))) (.cmp .gt (.var 6) (.var 3))) [.asg (.name 3) (.var 6)] []]],
    .ret (.var 3)]
def e__law_walked_top : Ent := ⟨"_law_walked_top", ["kinds", "pairs", "row", "best", "kind", "name", "n"], ["kinds", "pairs", "row"], [[]], 48, 81, b__law_walked_top⟩
def b__law_walked_link : List S := [.asg (.name 3) (.lit (.int 0)),
    .asg (.name 4) (.lit (.str "")),
    .for_ (.name 5) (.v (.var 2)) [.if_ (.and (.cmp .eq (.var 4) (.ix (.var 1) (.lit (.int 1)))) (.cmp .eq (.ix (.var 0) (.var 5)) (.ix (.var 1) (.lit (.int 2))))) [.aug 3 .add (.ix (.var 1) (.lit (.int 3)))] [],
      .asg (.name 4) (.ix (.var 0) (.var 5))],
    .ret (.var 3)]
def e__law_walked_link : Ent := ⟨"_law_walked_link", ["kinds", "atom", "row", "found", "before", "kind"], ["kinds", "atom", "row"], [[]], 46, 80, b__law_walked_link⟩
def b__law_walked_count : List S := [.asg (.name 2) (.lit (.int 0)),
    .asg (.name 3) (.lit (.int 0)),
    .for_ (.name 4) (.range1 (.var 1)) [.if_ (.or (.cmp .eq (.ix (.var 0) (.lit (.int 0))) (.lit (.str "each"))) (.and (.cmp .eq (.ix (.var 0) (.lit (.int 0))) (.lit (.str "fee"))) (.cmp .eq (.var 4) (.lit (.int 0))))) [.aug 2 .add (.ix (.var 0) (.lit (.int 1)))] [.if_ (.cmp .eq (.ix (.var 0) (.lit (.int 0))) (.lit (.str "pack"))) [.if_ (.cmp .eq (.var 3) (.lit (.int 0))) [.aug 2 .add (.ix (.var 0) (.lit (.int 3))),
            .asg (.name 3) (.ix (.var 0) (.lit (.int 1)))] [],
          .aug 3 .sub (.lit (.int 1))] [.if_ (.cmp .eq (.ix (.var 0) (.lit (.int 0))) (.lit (.str "stair"))) [.aug 2 .add (.ix (.ix (.var 0) (.lit (.int 2))) (.bif .min2 [(.var 4), (.bin .sub (.bif .len [(.ix (.var 0) (.lit (.int 2)))]) (.lit (.int 1)))]))] []]]],
    .ret (.var 2)]
def e__law_walked_count : Ent := ⟨"_law_walked_count", ["atom", "many", "found", "left", "k"], ["atom", "many"], [[]], 56, 90, b__law_walked_count⟩
def b__law_walked_atom : List S := [.asg (.name 3) (.ix (.var 1) (.lit (.int 0))),
    .if_ (.cmp .eq (.var 3) (.lit (.str "only"))) [.ret (.call "_law_walked" [(.var 0), (.ix (.var 1) (.lit (.int 2))), (.call "_law_members" [(.var 0), (.ix (.var 1) (.lit (.int 1))), (.var 2)] [])] [])] [],
    .if_ (.cmp .eq (.var 3) (.lit (.str "sum"))) [.ret (.call "_law_walked" [(.var 0), (.ix (.var 1) (.lit (.int 1))), (.var 2)] [])] [],
    .if_ (.cmp .eq (.var 3) (.lit (.str "top"))) [.ret (.call "_law_walked_top" [(.var 0), (.ix (.var 1) (.lit (.int 1))), (.var 2)] [])] [],
    .if_ (.cmp .eq (.var 3) (.lit (.str "link"))) [.ret (.call "_law_walked_link" [(.var 0), (.var 1), (.var 2)] [])] [],
    .asg (.name 4) (.ite (.cmp .eq (.var 3) (.lit (.str "stair"))) (.ix (.var 1) (.lit (.int 1))) (.ix (.var 1) (.lit (.int 2)))),
    .ret (.call "_law_walked_count" [(.var 1), (.bif .len [(.call "_law_members" [(.var 0), (.var 4), (.var 2)] [])])] [])]
def e__law_walked_atom : Ent := ⟨"_law_walked_atom", ["kinds", "atom", "row", "word", "names"], ["kinds", "atom", "row"], [[]], 46, 83, b__law_walked_atom⟩
def b__law_walked : List S := [.ret (.lf .sum (.comp [3, 4] (.v (.var 1)) (.tup [(.name 3), (.name 4)]) (.lit (.bl true)) (.bin .mul (.var 3) (.call "_law_walked_atom" [(.var 0), (.var 4), (.var 2)] []))))]
def e__law_walked : Ent := ⟨"_law_walked", ["kinds", "cost", "row", "factor", "atom"], ["kinds", "cost", "row"], [[]], 46, 77, b__law_walked⟩
def b__law_says : List S := [.asg (.name 3) (.call "meaning_of" [(.var 0), (.var 1), (.var 2)] []),
    .ret (.and (.call "_law_is_int" [(.var 3)] []) (.cmp .eq (.var 3) (.call "_law_walked" [(.var 0), (.var 1), (.var 2)] [])))]
def e__law_says : Ent := ⟨"_law_says", ["kinds", "cost", "row", "told"], ["kinds", "cost", "row"], [[]], 44, 76, b__law_says⟩
def b_law : List S := [.asg (.name 1) (.call "_law_begin" [(.var 0)] []),
    .asg (.name 2) (.call "_law_pool" [] []),
    .asg (.name 3) (.lf .tups (.comp [4] (.range1 (.bin .add (.lit (.int 1)) (.call "_law_draw" [(.var 1), (.lit (.int 6))] []))) (.name 4) (.lit (.bl true)) (.call "_law_pop" [(.var 1), (.var 2)] []))),
    .asg (.name 5) (.bif .len [(.var 3)]),
    .asg (.name 6) (.lf .tups (.comp [4] (.range1 (.call "_law_draw" [(.var 1), (.lit (.int 13))] [])) (.name 4) (.lit (.bl true)) (.call "_law_draw" [(.var 1), (.var 5)] []))),
    .if_ (.call "_law_rare" [(.var 1), (.lit (.int 9))] []) [.asg (.name 6) (.lf .tups (.comp [4] (.range1 (.lit (.int 60))) (.name 4) (.lit (.bl true)) (.call "_law_draw" [(.var 1), (.var 5)] [])))] [],
    .if_ (.call "_law_rare" [(.var 1), (.lit (.int 13))] []) [.asg (.name 6) (.bin .mul (.lf .tups (.comp [4] (.range1 (.lit (.int 40))) (.name 4) (.lit (.bl true)) (.call "_law_draw" [(.var 1), (.var 5)] []))) (.call "_law_pick" [(.var 1), (.new (.disp [(.lit (.int 5)), (.lit (.int 25)), (.lit (.int 250))]))] []))] [],
    .asg (.name 7) (.call "_law_atoms" [(.var 1), (.var 3)] []),
    .for_ (.name 8) (.v (.var 7)) [.if_ (.not (.call "_law_says" [(.var 3), (.tup [(.tup [(.lit (.int 1)), (.var 8)])]), (.var 6)] [])) [.ret (.lit (.bl false))] []],
    .asg (.name 9) (.lf .tups (.comp [8] (.v (.call "_law_shuffled" [(.var 1), (.var 7)] [])) (.name 8) (.lit (.bl true)) (.tup [(.call "_law_factor" [(.var 1)] []), (.var 8)]))),
    .for_ (.name 10) (.v (.tup [(.lit (.int 0)), (.lit (.int 1)), (.lit (.int 2)), (.lit (.int 5)), (.bif .len [(.var 6)])])) [.if_ (.not (.call "_law_says" [(.var 3), (.var 9), (.sl (.var 6) none (some (.var 10)))] [])) [.ret (.lit (.bl false))] []],
    .ret (.lit (.bl true))]
def e_law : Ent := ⟨"law", ["script", "d", "pool", "kinds", "k", "many", "row", "atoms", "atom", "cost", "size"], ["script"], [[]], 50, 92, b_law⟩
def T : List Ent := [e_such_members, e_top_meaning, e_stair_meaning, e_link_meaning, e_atom_meaning, e_meaning_of, e__law_begin, e__law_draw, e__law_pick, e__law_pop, e__law_rare, e__law_shuffled, e__law_pool, e__law_is_int, e__law_some_names, e__law_number, e__law_factor, e__law_plain, e__law_atoms, e__law_members, e__law_walked_top, e__law_walked_link, e__law_walked_count, e__law_walked_atom, e__law_walked, e__law_says, e_law]
def gl (x : Str) : Option AV := none
def G : GI := giOf T gl false true
theorem t_such_members : trSs G e_such_members.N e_such_members.fu e_such_members.gu (defScope (topS 1)) (defBody (topS 1)) = some e_such_members.body := by rfl
theorem s_such_members : FnScope e_such_members.N e_such_members.ps (defScope (topS 1)) := ⟨rfl, rfl, rfl, by decide +kernel, rfl, by decide +kernel, by decide +kernel⟩
theorem t_top_meaning : trSs G e_top_meaning.N e_top_meaning.fu e_top_meaning.gu (defScope (topS 2)) (defBody (topS 2)) = some e_top_meaning.body := by rfl
theorem s_top_meaning : FnScope e_top_meaning.N e_top_meaning.ps (defScope (topS 2)) := ⟨rfl, rfl, rfl, by decide +kernel, rfl, by decide +kernel, by decide +kernel⟩
theorem t_stair_meaning : trSs G e_stair_meaning.N e_stair_meaning.fu e_stair_meaning.gu (defScope (topS 3)) (defBody (topS 3)) = some e_stair_meaning.body := by rfl
theorem s_stair_meaning : FnScope e_stair_meaning.N e_stair_meaning.ps (defScope (topS 3)) := ⟨rfl, rfl, rfl, by decide +kernel, rfl, by decide +kernel, by decide +kernel⟩
theorem t_link_meaning : trSs G e_link_meaning.N e_link_meaning.fu e_link_meaning.gu (defScope (topS 4)) (defBody (topS 4)) = some e_link_meaning.body := by rfl
theorem s_link_meaning : FnScope e_link_meaning.N e_link_meaning.ps (defScope (topS 4)) := ⟨rfl, rfl, rfl, by decide +kernel, rfl, by decide +kernel, by decide +kernel⟩
theorem t_atom_meaning : trSs G e_atom_meaning.N e_atom_meaning.fu e_atom_meaning.gu (defScope (topS 5)) (defBody (topS 5)) = some e_atom_meaning.body := by rfl
theorem s_atom_meaning : FnScope e_atom_meaning.N e_atom_meaning.ps (defScope (topS 5)) := ⟨rfl, rfl, rfl, by decide +kernel, rfl, by decide +kernel, by decide +kernel⟩
theorem t_meaning_of : trSs G e_meaning_of.N e_meaning_of.fu e_meaning_of.gu (defScope (topS 6)) (defBody (topS 6)) = some e_meaning_of.body := by rfl
theorem s_meaning_of : FnScope e_meaning_of.N e_meaning_of.ps (defScope (topS 6)) := ⟨rfl, rfl, rfl, by decide +kernel, rfl, by decide +kernel, by decide +kernel⟩
theorem t__law_begin : trSs G e__law_begin.N e__law_begin.fu e__law_begin.gu (defScope (topS 8)) (defBody (topS 8)) = some e__law_begin.body := by rfl
theorem s__law_begin : FnScope e__law_begin.N e__law_begin.ps (defScope (topS 8)) := ⟨rfl, rfl, rfl, by decide +kernel, rfl, by decide +kernel, by decide +kernel⟩
theorem t__law_draw : trSs G e__law_draw.N e__law_draw.fu e__law_draw.gu (defScope (topS 9)) (defBody (topS 9)) = some e__law_draw.body := by rfl
theorem s__law_draw : FnScope e__law_draw.N e__law_draw.ps (defScope (topS 9)) := ⟨rfl, rfl, rfl, by decide +kernel, rfl, by decide +kernel, by decide +kernel⟩
theorem t__law_pick : trSs G e__law_pick.N e__law_pick.fu e__law_pick.gu (defScope (topS 10)) (defBody (topS 10)) = some e__law_pick.body := by rfl
theorem s__law_pick : FnScope e__law_pick.N e__law_pick.ps (defScope (topS 10)) := ⟨rfl, rfl, rfl, by decide +kernel, rfl, by decide +kernel, by decide +kernel⟩
theorem t__law_pop : trSs G e__law_pop.N e__law_pop.fu e__law_pop.gu (defScope (topS 11)) (defBody (topS 11)) = some e__law_pop.body := by rfl
theorem s__law_pop : FnScope e__law_pop.N e__law_pop.ps (defScope (topS 11)) := ⟨rfl, rfl, rfl, by decide +kernel, rfl, by decide +kernel, by decide +kernel⟩
theorem t__law_rare : trSs G e__law_rare.N e__law_rare.fu e__law_rare.gu (defScope (topS 12)) (defBody (topS 12)) = some e__law_rare.body := by rfl
theorem s__law_rare : FnScope e__law_rare.N e__law_rare.ps (defScope (topS 12)) := ⟨rfl, rfl, rfl, by decide +kernel, rfl, by decide +kernel, by decide +kernel⟩
theorem t__law_shuffled : trSs G e__law_shuffled.N e__law_shuffled.fu e__law_shuffled.gu (defScope (topS 13)) (defBody (topS 13)) = some e__law_shuffled.body := by rfl
theorem s__law_shuffled : FnScope e__law_shuffled.N e__law_shuffled.ps (defScope (topS 13)) := ⟨rfl, rfl, rfl, by decide +kernel, rfl, by decide +kernel, by decide +kernel⟩
theorem t__law_pool : trSs G e__law_pool.N e__law_pool.fu e__law_pool.gu (defScope (topS 14)) (defBody (topS 14)) = some e__law_pool.body := by rfl
theorem s__law_pool : FnScope e__law_pool.N e__law_pool.ps (defScope (topS 14)) := ⟨rfl, rfl, rfl, by decide +kernel, rfl, by decide +kernel, by decide +kernel⟩
theorem t__law_is_int : trSs G e__law_is_int.N e__law_is_int.fu e__law_is_int.gu (defScope (topS 15)) (defBody (topS 15)) = some e__law_is_int.body := by rfl
theorem s__law_is_int : FnScope e__law_is_int.N e__law_is_int.ps (defScope (topS 15)) := ⟨rfl, rfl, rfl, by decide +kernel, rfl, by decide +kernel, by decide +kernel⟩
theorem t__law_some_names : trSs G e__law_some_names.N e__law_some_names.fu e__law_some_names.gu (defScope (topS 16)) (defBody (topS 16)) = some e__law_some_names.body := by rfl
theorem s__law_some_names : FnScope e__law_some_names.N e__law_some_names.ps (defScope (topS 16)) := ⟨rfl, rfl, rfl, by decide +kernel, rfl, by decide +kernel, by decide +kernel⟩
theorem t__law_number : trSs G e__law_number.N e__law_number.fu e__law_number.gu (defScope (topS 17)) (defBody (topS 17)) = some e__law_number.body := by rfl
theorem s__law_number : FnScope e__law_number.N e__law_number.ps (defScope (topS 17)) := ⟨rfl, rfl, rfl, by decide +kernel, rfl, by decide +kernel, by decide +kernel⟩
theorem t__law_factor : trSs G e__law_factor.N e__law_factor.fu e__law_factor.gu (defScope (topS 18)) (defBody (topS 18)) = some e__law_factor.body := by rfl
theorem s__law_factor : FnScope e__law_factor.N e__law_factor.ps (defScope (topS 18)) := ⟨rfl, rfl, rfl, by decide +kernel, rfl, by decide +kernel, by decide +kernel⟩
theorem t__law_plain : trSs G e__law_plain.N e__law_plain.fu e__law_plain.gu (defScope (topS 19)) (defBody (topS 19)) = some e__law_plain.body := by rfl
theorem s__law_plain : FnScope e__law_plain.N e__law_plain.ps (defScope (topS 19)) := ⟨rfl, rfl, rfl, by decide +kernel, rfl, by decide +kernel, by decide +kernel⟩
theorem t__law_atoms : trSs G e__law_atoms.N e__law_atoms.fu e__law_atoms.gu (defScope (topS 20)) (defBody (topS 20)) = some e__law_atoms.body := by rfl
theorem s__law_atoms : FnScope e__law_atoms.N e__law_atoms.ps (defScope (topS 20)) := ⟨rfl, rfl, rfl, by decide +kernel, rfl, by decide +kernel, by decide +kernel⟩
theorem t__law_members : trSs G e__law_members.N e__law_members.fu e__law_members.gu (defScope (topS 21)) (defBody (topS 21)) = some e__law_members.body := by rfl
theorem s__law_members : FnScope e__law_members.N e__law_members.ps (defScope (topS 21)) := ⟨rfl, rfl, rfl, by decide +kernel, rfl, by decide +kernel, by decide +kernel⟩
theorem t__law_walked_top : trSs G e__law_walked_top.N e__law_walked_top.fu e__law_walked_top.gu (defScope (topS 22)) (defBody (topS 22)) = some e__law_walked_top.body := by rfl
theorem s__law_walked_top : FnScope e__law_walked_top.N e__law_walked_top.ps (defScope (topS 22)) := ⟨rfl, rfl, rfl, by decide +kernel, rfl, by decide +kernel, by decide +kernel⟩
theorem t__law_walked_link : trSs G e__law_walked_link.N e__law_walked_link.fu e__law_walked_link.gu (defScope (topS 23)) (defBody (topS 23)) = some e__law_walked_link.body := by rfl
theorem s__law_walked_link : FnScope e__law_walked_link.N e__law_walked_link.ps (defScope (topS 23)) := ⟨rfl, rfl, rfl, by decide +kernel, rfl, by decide +kernel, by decide +kernel⟩
theorem t__law_walked_count : trSs G e__law_walked_count.N e__law_walked_count.fu e__law_walked_count.gu (defScope (topS 24)) (defBody (topS 24)) = some e__law_walked_count.body := by rfl
theorem s__law_walked_count : FnScope e__law_walked_count.N e__law_walked_count.ps (defScope (topS 24)) := ⟨rfl, rfl, rfl, by decide +kernel, rfl, by decide +kernel, by decide +kernel⟩
theorem t__law_walked_atom : trSs G e__law_walked_atom.N e__law_walked_atom.fu e__law_walked_atom.gu (defScope (topS 25)) (defBody (topS 25)) = some e__law_walked_atom.body := by rfl
theorem s__law_walked_atom : FnScope e__law_walked_atom.N e__law_walked_atom.ps (defScope (topS 25)) := ⟨rfl, rfl, rfl, by decide +kernel, rfl, by decide +kernel, by decide +kernel⟩
theorem t__law_walked : trSs G e__law_walked.N e__law_walked.fu e__law_walked.gu (defScope (topS 26)) (defBody (topS 26)) = some e__law_walked.body := by rfl
theorem s__law_walked : FnScope e__law_walked.N e__law_walked.ps (defScope (topS 26)) := ⟨rfl, rfl, rfl, by decide +kernel, rfl, by decide +kernel, by decide +kernel⟩
theorem t__law_says : trSs G e__law_says.N e__law_says.fu e__law_says.gu (defScope (topS 27)) (defBody (topS 27)) = some e__law_says.body := by rfl
theorem s__law_says : FnScope e__law_says.N e__law_says.ps (defScope (topS 27)) := ⟨rfl, rfl, rfl, by decide +kernel, rfl, by decide +kernel, by decide +kernel⟩
theorem t_law : trSs G e_law.N e_law.fu e_law.gu (defScope (topS 28)) (defBody (topS 28)) = some e_law.body := by rfl
theorem s_law : FnScope e_law.N e_law.ps (defScope (topS 28)) := ⟨rfl, rfl, rfl, by decide +kernel, rfl, by decide +kernel, by decide +kernel⟩
end Law


set_option linter.all false
set_option maxRecDepth 100000
set_option maxHeartbeats 2000000
namespace Sh
open Ev

/-! ### sums -/
def sm : Nat → (Nat → Int) → Int
  | 0, _ => 0 | n + 1, f => sm n f + f n
theorem sm_congr : ∀ {n : Nat} {f g : Nat → Int}, (∀ m, m < n → f m = g m) → sm n f = sm n g
  | 0, _, _, _ => rfl
  | n + 1, f, g, h => by
    show sm n f + f n = sm n g + g n
    rw [sm_congr fun m hm => h m (by omega), h n (by omega)]
theorem sm_add (a : Nat) (f : Nat → Int) : ∀ b, sm (a + b) f = sm a f + sm b fun m => f (a + m)
  | 0 => by show sm a f = sm a f + 0; omega
  | b + 1 => by
    show sm (a + b) f + f (a + b) = sm a f + (sm b (fun m => f (a + m)) + f (a + b))
    rw [sm_add a f b]; omega
theorem sm_zero : ∀ n, sm n (fun _ => 0) = 0
  | 0 => rfl
  | n + 1 => by show sm n (fun _ => 0) + 0 = 0; rw [sm_zero n]; rfl
theorem sm_plus (f g : Nat → Int) : ∀ n, sm n (fun m => f m + g m) = sm n f + sm n g
  | 0 => rfl
  | n + 1 => by
    show sm n _ + (f n + g n) = sm n f + f n + (sm n g + g n)
    rw [sm_plus f g n]; omega
theorem sm_sub (f g : Nat → Int) : ∀ n, sm n (fun m => f m - g m) = sm n f - sm n g
  | 0 => rfl
  | n + 1 => by
    show sm n _ + (f n - g n) = sm n f + f n - (sm n g + g n)
    rw [sm_sub f g n]; omega
theorem sm_mul (c : Int) (f : Nat → Int) : ∀ n, sm n (fun m => c * f m) = c * sm n f
  | 0 => by show (0 : Int) = c * 0; rw [Int.mul_zero]
  | n + 1 => by
    show sm n _ + c * f n = c * (sm n f + f n)
    rw [sm_mul c f n, Int.mul_add]
theorem sm_swap (F : Nat → Nat → Int) (b : Nat) : ∀ a, sm a (fun i => sm b (fun j => F i j)) = sm b (fun j => sm a (fun i => F i j))
  | 0 => (sm_zero b).symm
  | a + 1 => by
    show sm a _ + sm b (fun j => F a j) = sm b (fun j => sm a (fun i => F i j) + F a j)
    rw [sm_plus, sm_swap F b a]
theorem sm_one {n a : Nat} {f : Nat → Int} (ha : a < n) (h : ∀ m, m < n → m ≠ a → f m = 0) : sm n f = f a := by
  induction n with
  | zero => omega
  | succ n ih =>
    show sm n f + f n = f a
    by_cases e : a = n
    · subst e
      have : sm a f = sm a (fun _ => 0) := sm_congr fun m hm => h m (by omega) (by omega)
      rw [this, sm_zero]; omega
    · rw [ih (by omega) fun m hm hne => h m (by omega) hne, h n (by omega) (Ne.symm e)]; omega
theorem sm_list : ∀ (L : List Int), L.sum = sm L.length fun i => L.getD i 0
  | [] => rfl
  | x :: r => by
    rw [List.sum_cons, List.length_cons, Nat.add_comm, sm_add, sm_list r]
    show x + _ = (0 + x) + _
    rw [Int.zero_add]
    congr 1
    exact sm_congr fun m _ => by rw [Nat.add_comm 1 m]; rfl
theorem sm_range (f : Nat → Int) : ∀ n, ((List.range n).map f).sum = sm n f
  | 0 => rfl
  | n + 1 => by rw [List.range_succ, List.map_append, List.sum_append, sm_range f n]; simp [sm]

/-! ### masks -/
theorem tb_add {m i : Nat} (h : m.testBit i = false) (j : Nat) : (m + 2 ^ i).testBit j = if j = i then true else m.testBit j := by
  simp only [Nat.testBit_eq_decide_div_mod_eq, decide_eq_false_iff_not] at h ⊢
  have h2 : (m + 2 ^ i) / 2 ^ i = m / 2 ^ i + 1 := Nat.add_div_right m (Nat.two_pow_pos i)
  by_cases hj : j = i
  · subst hj
    rw [if_pos rfl, h2, decide_eq_true_eq]; omega
  · rw [if_neg hj]
    by_cases hl : j < i
    · have e : (2 : Nat) ^ i = 2 ^ j * (2 * 2 ^ (i - j - 1)) := by
        rw [← Nat.pow_succ', ← Nat.pow_add]; congr 1; omega
      have e2 : (m + 2 ^ i) / 2 ^ j = m / 2 ^ j + 2 * 2 ^ (i - j - 1) := by
        rw [e]; exact Nat.add_mul_div_left m _ (Nat.two_pow_pos j)
      rw [e2]
      congr 2
      omega
    · obtain ⟨t, rfl⟩ : ∃ t, j = i + 1 + t := ⟨j - i - 1, by omega⟩
      have e3 : ∀ x : Nat, x / 2 ^ (i + 1 + t) = x / 2 ^ i / 2 / 2 ^ t := fun x => by
            rw [Nat.div_div_eq_div_mul, Nat.div_div_eq_div_mul, Nat.add_assoc, Nat.pow_add, Nat.pow_add, Nat.pow_one]
      rw [e3, e3, h2]
      have : (m / 2 ^ i + 1) / 2 = m / 2 ^ i / 2 := by omega
      rw [this]
theorem tb_hi {n m : Nat} (h : m < 2 ^ n) {i : Nat} (hi : n ≤ i) : m.testBit i = false :=
  Nat.testBit_lt_two_pow (Nat.lt_of_lt_of_le h (Nat.pow_le_pow_right (by decide) hi))
theorem tb_two {n m i : Nat} (hi : i < n) : (2 ^ n + m).testBit i = m.testBit i := Nat.testBit_two_pow_add_gt hi m
theorem tb_ge {m i : Nat} (h : m.testBit i = true) : 2 ^ i ≤ m := Nat.ge_two_pow_of_testBit h
/-- a mask without bit i stays below 2^n with it -/
theorem add_lt {n m i : Nat} (hm : m < 2 ^ n) (hi : i < n) (h : m.testBit i = false) : m + 2 ^ i < 2 ^ n := by
  apply Nat.lt_pow_two_of_testBit
  intro j hj
  rw [tb_add h, if_neg (by omega)]
  exact tb_hi hm hj
def pc : Nat → Nat → Nat
  | 0, _ => 0 | n + 1, m => pc n m + if m.testBit n then 1 else 0
theorem pc_le : ∀ n m, pc n m ≤ n
  | 0, _ => Nat.le_refl _
  | n + 1, m => by
    show pc n m + _ ≤ n + 1
    have := pc_le n m
    split <;> omega
theorem pc_congr : ∀ {n a b : Nat}, (∀ i, i < n → a.testBit i = b.testBit i) → pc n a = pc n b
  | 0, _, _, _ => rfl
  | n + 1, a, b, h => by
    show pc n a + _ = pc n b + _
    rw [pc_congr fun i hi => h i (by omega), h n (by omega)]
theorem pc_lo {n m : Nat} (h : m < 2 ^ n) : pc (n + 1) m = pc n m := by
  show pc n m + _ = pc n m
  rw [tb_hi h (Nat.le_refl _)]; rfl
theorem pc_hi {n m : Nat} (h : m < 2 ^ n) : pc (n + 1) (2 ^ n + m) = pc n m + 1 := by
  show pc n (2 ^ n + m) + _ = _
  rw [pc_congr fun i hi => tb_two hi, Nat.testBit_two_pow_add_eq, tb_hi h (Nat.le_refl _)]; rfl
theorem pc_add {i m : Nat} (h : m.testBit i = false) : ∀ n, pc n (m + 2 ^ i) = pc n m + if i < n then 1 else 0
  | 0 => rfl
  | n + 1 => by
    show pc n (m + 2 ^ i) + _ = pc n m + _ + _
    rw [pc_add h n, tb_add h]
    by_cases e : n = i
    · subst e; rw [if_pos rfl, h]; simp
    · rw [if_neg e]
      by_cases hl : i < n
      · have h2 : i < n + 1 := by omega
        simp only [if_pos hl, if_pos h2]; omega
      · have h2 : ¬ i < n + 1 := by omega
        simp only [if_neg hl, if_neg h2]; omega
theorem pc_lt {n m i : Nat} (hi : i < n) (h : m.testBit i = false) : pc n m < n := by
  have h1 := pc_add h n
  have h2 := pc_le n (m + 2 ^ i)
  rw [if_pos hi] at h1
  omega
theorem pc_zero : ∀ {n m : Nat}, m < 2 ^ n → pc n m = 0 → m = 0
  | 0, m, h, _ => by have h : m < 1 := h; omega
  | n + 1, m, h, e => by
    have e : pc n m + (if m.testBit n then 1 else 0) = 0 := e
    by_cases hb : m.testBit n = true
    · rw [if_pos hb] at e; omega
    · refine pc_zero (n := n) ?_ (by omega)
      by_cases hl : m < 2 ^ n
      · exact hl
      · exfalso
        apply hb
        obtain ⟨t, rfl⟩ : ∃ t, m = 2 ^ n + t := ⟨m - 2 ^ n, by omega⟩
        rw [Nat.testBit_two_pow_add_eq, tb_hi (n := n) (by rw [Nat.pow_succ] at h; omega) (Nat.le_refl _)]; rfl
theorem pc_full : ∀ {n m : Nat}, m < 2 ^ n → pc n m = n → m = 2 ^ n - 1
  | 0, m, h, _ => by have h : m < 1 := h; show m = 0; omega
  | n + 1, m, h, e => by
    have e : pc n m + (if m.testBit n then 1 else 0) = n + 1 := e
    have hle := pc_le n m
    by_cases hb : m.testBit n = true
    · rw [if_pos hb] at e
      have := tb_ge hb
      obtain ⟨t, rfl⟩ : ∃ t, m = 2 ^ n + t := ⟨m - 2 ^ n, by omega⟩
      have ht : t < 2 ^ n := by rw [Nat.pow_succ] at h; omega
      have e2 : pc n t = n := by
        rw [← pc_congr (a := 2 ^ n + t) fun i hi => tb_two hi]; omega
      have := pc_full ht e2
      rw [Nat.pow_succ]; omega
    · rw [if_neg hb] at e; omega
theorem pc_all (n : Nat) : pc n (2 ^ n - 1) = n := by
  have : ∀ k, k ≤ n → pc k (2 ^ n - 1) = k := by
    intro k
    induction k with
    | zero => intro _; rfl
    | succ k ih =>
      intro hk
      show pc k _ + _ = k + 1
      rw [ih (by omega), Nat.testBit_two_pow_sub_one]
      have : k < n := hk
      simp [this]
  exact this n (Nat.le_refl _)
theorem pc_nil (n : Nat) : pc n 0 = 0 := by
  induction n with
  | zero => rfl
  | succ n ih => show pc n 0 + _ = 0; rw [ih, Nat.zero_testBit]; rfl
theorem pc_inv {n a : Nat} (h : a < 2 ^ n) : pc n (2 ^ n - 1 - a) = n - pc n a := by
  have e : 2 ^ n - 1 - a = 2 ^ n - (a + 1) := by omega
  rw [e]
  have : ∀ k, k ≤ n → pc k (2 ^ n - (a + 1)) + pc k a = k := by
    intro k
    induction k with
    | zero => intro _; rfl
    | succ k ih =>
      intro hk
      show (pc k _ + _) + (pc k a + _) = k + 1
      have := ih (by omega)
      rw [Nat.testBit_two_pow_sub_succ h]
      have hk : k < n := hk
      cases a.testBit k <;> simp [hk] <;> omega
  have := this n (Nat.le_refl _)
  omega

/-! ### the sums over groups -/
theorem half (f : Nat → Int) {i : Nat} : ∀ {n : Nat}, i < n → sm (2 ^ n) (fun m => if m.testBit i then 0 else f (m + 2 ^ i)) = sm (2 ^ n) (fun m => if m.testBit i then f m else 0)
  | 0, h => by omega
  | n + 1, h => by
    rw [Nat.pow_succ, Nat.mul_two, sm_add, sm_add]
    by_cases e : i = n
    · subst e
      have a1 : sm (2 ^ i) (fun m => if m.testBit i then 0 else f (m + 2 ^ i)) = sm (2 ^ i) (fun m => f (2 ^ i + m)) := sm_congr fun m hm => by rw [tb_hi hm (Nat.le_refl _), Nat.add_comm]; rfl
      have a2 : sm (2 ^ i) (fun m => if (2 ^ i + m).testBit i then 0 else f (2 ^ i + m + 2 ^ i)) = sm (2 ^ i) (fun _ => 0) := sm_congr fun m hm => by rw [Nat.testBit_two_pow_add_eq, tb_hi hm (Nat.le_refl _)]; rfl
      have a3 : sm (2 ^ i) (fun m => if m.testBit i then f m else 0) = sm (2 ^ i) (fun _ => 0) := sm_congr fun m hm => by rw [tb_hi hm (Nat.le_refl _)]; rfl
      have a4 : sm (2 ^ i) (fun m => if (2 ^ i + m).testBit i then f (2 ^ i + m) else 0) = sm (2 ^ i) (fun m => f (2 ^ i + m)) := sm_congr fun m hm => by rw [Nat.testBit_two_pow_add_eq, tb_hi hm (Nat.le_refl _)]; rfl
      rw [a1, a2, a3, a4, sm_zero]; omega
    · have hi : i < n := by omega
      rw [half f hi]
      congr 1
      have := half (fun m => f (2 ^ n + m)) hi
      rw [sm_congr (g := fun m => if m.testBit i then 0 else f (2 ^ n + (m + 2 ^ i))) fun m hm => by rw [tb_two hi, Nat.add_assoc], this]
      exact sm_congr fun m hm => by rw [tb_two hi]
/-- what member i adds in the sum, weighed by the groups' sizes -/
def mar (n : Nat) (w : Nat → Int) (C : Nat → Int) (i : Nat) : Int := sm (2 ^ n) fun m => if m.testBit i then 0 else w (pc n m) * (C (m + 2 ^ i) - C m)
def fac : Nat → Int
  | 0 => 1 | n + 1 => (n + 1 : Nat) * fac n
def shw (n s : Nat) : Int := fac s * fac (n - 1 - s)
theorem sm_bit (x : Int) (m : Nat) : ∀ n, sm n (fun i => if m.testBit i then x else 0) = pc n m * x
  | 0 => by show (0 : Int) = 0 * x; omega
  | n + 1 => by
    show sm n (fun i => if m.testBit i then x else 0) + (if m.testBit n then x else 0) = ((pc n m + (if m.testBit n then 1 else 0) : Nat) : Int) * x
    rw [sm_bit x m n]
    cases m.testBit n
    · simp
    · simp only [if_true, Int.natCast_add, Int.add_mul]; simp
theorem sm_bit0 (x : Int) (m : Nat) : ∀ n, sm n (fun i => if m.testBit i then 0 else x) = (n - pc n m : Int) * x
  | 0 => by show (0 : Int) = (0 - 0) * x; omega
  | n + 1 => by
    show sm n (fun i => if m.testBit i then 0 else x) + (if m.testBit n then 0 else x) = (((n + 1 : Nat) : Int) - (pc n m + (if m.testBit n then 1 else 0) : Nat)) * x
    rw [sm_bit0 x m n]
    cases m.testBit n
    · simp only [Bool.false_eq_true, if_false]
      rw [show ((n + 1 : Nat) : Int) - ((pc n m + 0 : Nat) : Int) = ((n : Int) - pc n m) + 1 by omega, Int.add_mul, Int.one_mul]
    · simp only [if_true]
      rw [show ((n + 1 : Nat) : Int) - ((pc n m + 1 : Nat) : Int) = (n : Int) - pc n m by omega, Int.add_zero]
theorem mar_all (n : Nat) (w C : Nat → Int) : sm n (fun i => mar n w C i) = sm (2 ^ n) fun m => C m * (pc n m * w (pc n m - 1) - (n - pc n m : Int) * w (pc n m)) := by
  have h1 : ∀ i, i < n → mar n w C i = sm (2 ^ n) (fun m => if m.testBit i then w (pc n m - 1) * C m else 0) - sm (2 ^ n) fun m => if m.testBit i then 0 else w (pc n m) * C m := by
    intro i hi
    rw [← half (fun m => w (pc n m - 1) * C m) hi, ← sm_sub]
    refine sm_congr fun m hm => ?_
    by_cases hb : m.testBit i = true
    · simp [hb]
    · have hb : m.testBit i = false := by simpa using hb
      have := pc_add hb n
      rw [if_pos hi] at this
      simp only [hb, Bool.false_eq_true, if_false, this, Nat.add_sub_cancel, Int.mul_sub]
  rw [sm_congr h1, sm_sub, sm_swap (fun i m => if m.testBit i then w (pc n m - 1) * C m else 0), sm_swap (fun i m => if m.testBit i then 0 else w (pc n m) * C m), ← sm_sub]
  refine sm_congr fun m hm => ?_
  rw [sm_bit, sm_bit0]
  rw [Int.mul_sub]
  congr 1
  · rw [Int.mul_comm (C m), Int.mul_assoc]
  · rw [Int.mul_comm (C m), Int.mul_assoc]
theorem fac_pos : ∀ n, 0 < fac n
  | 0 => by decide
  | n + 1 => Int.mul_pos (by omega) (fac_pos n)
theorem mar_fac (n : Nat) (C : Nat → Int) : sm n (fun i => mar n (shw n) C i) = fac n * (C (2 ^ n - 1) - C 0) := by
  cases n with
  | zero => show (0 : Int) = 1 * (C 0 - C 0); omega
  | succ n =>
    rw [mar_all]
    have p1 : 2 ≤ 2 ^ (n + 1) := by rw [Nat.pow_succ]; have := Nat.two_pow_pos n; omega
    have e : sm (2 ^ (n + 1)) (fun m => C m * (pc (n + 1) m * shw (n + 1) (pc (n + 1) m - 1) - ((n + 1 : Nat) - pc (n + 1) m : Int) * shw (n + 1) (pc (n + 1) m)))
        = sm (2 ^ (n + 1)) (fun m => (if m = 2 ^ (n + 1) - 1 then fac (n + 1) * C m else 0) - (if m = 0 then fac (n + 1) * C m else 0)) := by
      refine sm_congr fun m hm => ?_
      have hle := pc_le (n + 1) m
      by_cases h0 : m = 0
      · subst h0
        rw [pc_nil, if_neg (by omega), if_pos rfl]
        have : shw (n + 1) 0 = fac n := by unfold shw; show 1 * fac (n + 1 - 1 - 0) = fac n; simp
        have f1 : fac (n + 1) = ((n + 1 : Nat) : Int) * fac n := rfl
        rw [Int.natCast_zero, Int.zero_mul, Int.zero_sub, Int.sub_zero, this, f1, Int.mul_neg, Int.zero_sub, Int.mul_comm (C 0)]
      · by_cases h1 : m = 2 ^ (n + 1) - 1
        · subst h1
          rw [pc_all, if_pos rfl, if_neg (by omega)]
          have : shw (n + 1) (n + 1 - 1) = fac n := by unfold shw; simp [fac]
          rw [this]
          have f1 : fac (n + 1) = ((n + 1 : Nat) : Int) * fac n := rfl
          rw [f1]
          have z : ((n + 1 : Nat) : Int) - ((n + 1 : Nat) : Int) = 0 := by omega
          rw [z, Int.zero_mul, Int.sub_zero, Int.sub_zero, Int.mul_comm]
        · rw [if_neg h1, if_neg h0]
          have hp0 : pc (n + 1) m ≠ 0 := fun z => h0 (pc_zero hm z)
          have hp1 : pc (n + 1) m ≠ n + 1 := fun z => h1 (pc_full hm z)
          obtain ⟨s, hs⟩ : ∃ s, pc (n + 1) m = s + 1 := ⟨pc (n + 1) m - 1, by omega⟩
          rw [hs]
          have hsn : s < n := by omega
          obtain ⟨t, rfl⟩ : ∃ t, n = s + 1 + t := ⟨n - s - 1, by omega⟩
          have e1 : shw (s + 1 + t + 1) (s + 1 - 1) = fac s * (((t + 1 : Nat) : Int) * fac t) := by
            unfold shw
            rw [show s + 1 + t + 1 - 1 - (s + 1 - 1) = t + 1 by omega, show s + 1 - 1 = s by omega]; rfl
          have e2 : shw (s + 1 + t + 1) (s + 1) = ((s + 1 : Nat) : Int) * fac s * fac t := by
            unfold shw
            rw [show s + 1 + t + 1 - 1 - (s + 1) = t by omega]; rfl
          rw [e1, e2, show (((s + 1 + t + 1 : Nat) : Int) - ((s + 1 : Nat) : Int)) = ((t + 1 : Nat) : Int) by omega]
          have : ((s + 1 : Nat) : Int) * (fac s * (((t + 1 : Nat) : Int) * fac t)) - ((t + 1 : Nat) : Int) * (((s + 1 : Nat) : Int) * fac s * fac t) = 0 := by
            rw [← Int.mul_assoc, Int.mul_left_comm ((t + 1 : Nat) : Int)]
            exact Int.sub_self _
          rw [this, Int.mul_zero]; rfl
    rw [e, sm_sub, sm_one (a := 2 ^ (n + 1) - 1) (by omega) (fun m _ h => if_neg h), sm_one (a := 0) (by omega) (fun m _ h => if_neg h), if_pos rfl, if_pos rfl, Int.mul_sub]
end Sh


set_option linter.all false
set_option maxRecDepth 100000
set_option maxHeartbeats 2000000
namespace Sh
open Ev

/-! ### orders of at most five members -/
def ordL : Nat → List (List Nat)
  | 0 => [[]] | j + 1 => (ordL j).flatMap fun o => (List.range (j + 1)).map fun at_ => o.take at_ ++ j :: o.drop at_
/-- the masks that stand before member i in an order -/
def befs (i : Nat) : Nat → List Nat → List Nat
  | _, [] => [] | b, x :: r => if x = i then b :: befs i (b + 2 ^ x) r else befs i (b + 2 ^ x) r
def con (C : Nat → Int) (i : Nat) (b : Nat) (o : List Nat) : Int := ((befs i b o).map fun b => C (b + 2 ^ i) - C b).sum
def endm : Nat → List Nat → Nat
  | b, [] => b | b, x :: r => endm (b + 2 ^ x) r
theorem befs_snoc (i x : Nat) : ∀ (o : List Nat) (b : Nat), befs i b (o ++ [x]) = befs i b o ++ if x = i then [endm b o] else []
  | [], b => by show (if x = i then _ else _) = _; split <;> rfl
  | y :: r, b => by
    show (if y = i then b :: befs i _ (r ++ [x]) else befs i _ (r ++ [x])) = (if y = i then b :: befs i _ r else befs i _ r) ++ _
    rw [befs_snoc i x r]
    split <;> rfl
theorem endm_snoc (x : Nat) : ∀ (o : List Nat) (b : Nat), endm b (o ++ [x]) = endm b o + 2 ^ x
  | [], _ => rfl
  | y :: r, b => endm_snoc x r _
theorem con_snoc (C : Nat → Int) (i x b : Nat) (o : List Nat) : con C i b (o ++ [x]) = con C i b o + if x = i then C (endm b o + 2 ^ x) - C (endm b o) else 0 := by
  unfold con
  rw [befs_snoc, List.map_append, List.sum_append]
  split
  · rename_i h; subst h; simp
  · simp
theorem count_sum (f : Nat → Int) : ∀ (L : List Nat) {N : Nat}, (∀ x ∈ L, x < N) → (L.map f).sum = sm N fun m => (L.count m : Int) * f m
  | [], N, _ => by
    have : sm N (fun m => (([] : List Nat).count m : Int) * f m) = sm N (fun _ => 0) := sm_congr fun m _ => by simp
    rw [this, sm_zero]; rfl
  | x :: r, N, h => by
    rw [List.map_cons, List.sum_cons, count_sum f r fun y hy => h y (List.mem_cons_of_mem _ hy)]
    have e : sm N (fun m => (((x :: r).count m : Nat) : Int) * f m) = sm N (fun m => (r.count m : Int) * f m) + sm N (fun m => if m = x then f x else 0) := by
      rw [← sm_plus]
      refine sm_congr fun m _ => ?_
      rw [List.count_cons]
      by_cases e : x = m
      · subst e; simp [Int.add_mul]
      · have : ¬ m = x := fun z => e z.symm
        simp [e, this]
    rw [e, sm_one (a := x) (h x (by simp)) (fun m _ hm => if_neg hm), if_pos rfl]; omega
def facN : Nat → Nat
  | 0 => 1 | n + 1 => (n + 1) * facN n
theorem fac_N : ∀ n, fac n = (facN n : Int)
  | 0 => rfl
  | n + 1 => by show ((n + 1 : Nat) : Int) * fac n = (((n + 1) * facN n : Nat) : Int); rw [fac_N n, Int.natCast_mul]
def allB (n i : Nat) : List Nat := (ordL n).flatMap fun o => befs i 0 o
def chkB (n i : Nat) : Bool := (allB n i).all (fun b => decide (b < 2 ^ n)) && (List.range (2 ^ n)).all fun m => (allB n i).count m == if m.testBit i then 0 else facN (pc n m) * facN (n - 1 - pc n m)
theorem chk_all : (List.range 6).all (fun n => (List.range n).all (chkB n)) = true := by decide +kernel
theorem ord_len : (List.range 6).all (fun n => (ordL n).length == facN n) = true := by decide +kernel
theorem ordL_len {n : Nat} (h : n ≤ 5) : ((ordL n).length : Int) = fac n := by
  have := List.all_eq_true.mp ord_len n (List.mem_range.mpr (by omega))
  rw [fac_N, beq_iff_eq.mp this]
theorem flat_sum (C : Nat → Int) (i : Nat) : ∀ L : List (List Nat), (L.map (con C i 0)).sum = ((L.flatMap fun o => befs i 0 o).map fun b => C (b + 2 ^ i) - C b).sum
  | [] => rfl
  | o :: r => by rw [List.map_cons, List.sum_cons, flat_sum C i r, List.flatMap_cons, List.map_append, List.sum_append]; rfl
theorem orders_mar {n i : Nat} (hn : n ≤ 5) (hi : i < n) (C : Nat → Int) : ((ordL n).map (con C i 0)).sum = mar n (shw n) C i := by
  have := List.all_eq_true.mp (List.all_eq_true.mp chk_all n (List.mem_range.mpr (by omega))) i (List.mem_range.mpr hi)
  unfold chkB at this
  rw [Bool.and_eq_true, List.all_eq_true, List.all_eq_true] at this
  obtain ⟨h1, h2⟩ := this
  rw [flat_sum]
  show ((allB n i).map _).sum = _
  rw [count_sum _ (allB n i) (N := 2 ^ n) fun x hx => of_decide_eq_true (h1 x hx)]
  refine sm_congr fun m hm => ?_
  rw [beq_iff_eq.mp (h2 m (List.mem_range.mpr hm))]
  split
  · simp
  · unfold shw
    rw [fac_N, fac_N, Int.natCast_mul]
/-- each order has its members -/
theorem ordL_mem : ∀ {n : Nat} {o : List Nat}, o ∈ ordL n → ∀ x ∈ o, x < n
  | 0, o, h, x, hx => by rw [List.mem_singleton.mp h] at hx; cases hx
  | n + 1, o, h, x, hx => by
    obtain ⟨p, hp, h2⟩ := List.mem_flatMap.mp h
    obtain ⟨a, _, rfl⟩ := List.mem_map.mp h2
    rcases List.mem_append.mp hx with h | h
    · have := ordL_mem hp x (List.mem_of_mem_take h); omega
    · rcases List.mem_cons.mp h with h | h
      · omega
      · have := ordL_mem hp x (List.mem_of_mem_drop h); omega

/-! ### the ways to a group -/
def wf (n b j m : Nat) : Int := (if m = 0 then 1 else 0) + sm n fun i => if m.testBit i = true ∧ (m - 2 ^ i < b ∨ (m - 2 ^ i = b ∧ i < j)) then fac (pc n m - 1) else 0
theorem wf_init (n m : Nat) : wf n 0 0 m = if m = 0 then 1 else 0 := by
  unfold wf
  have : sm n (fun i => if m.testBit i = true ∧ (m - 2 ^ i < 0 ∨ (m - 2 ^ i = 0 ∧ i < 0)) then fac (pc n m - 1) else 0) = sm n fun _ => 0 := sm_congr fun i _ => if_neg (by omega)
  rw [this, sm_zero]; omega
theorem wf_next (n b m : Nat) : wf n b n m = wf n (b + 1) 0 m := by
  unfold wf
  congr 1
  refine sm_congr fun i hi => ?_
  have : (m.testBit i = true ∧ (m - 2 ^ i < b ∨ (m - 2 ^ i = b ∧ i < n))) ↔ (m.testBit i = true ∧ (m - 2 ^ i < b + 1 ∨ (m - 2 ^ i = b + 1 ∧ i < 0))) := by
    constructor <;> rintro ⟨h1, h2⟩ <;> refine ⟨h1, ?_⟩ <;> omega
  simp only [this]
theorem wf_full {n b j m : Nat} (hm : m < 2 ^ n) (h : m ≤ b) : wf n b j m = fac (pc n m) := by
  unfold wf
  have : sm n (fun i => if m.testBit i = true ∧ (m - 2 ^ i < b ∨ (m - 2 ^ i = b ∧ i < j)) then fac (pc n m - 1) else 0) = sm n fun i => if m.testBit i then fac (pc n m - 1) else 0 := sm_congr fun i hi => by
    by_cases hb : m.testBit i = true
    · have := tb_ge hb
      have h2 := Nat.two_pow_pos i
      have h3 : m - 2 ^ i < b ∨ (m - 2 ^ i = b ∧ i < j) := by omega
      rw [if_pos ⟨hb, h3⟩, if_pos hb]
    · rw [if_neg (fun z => hb z.1), if_neg hb]
  rw [this, sm_bit]
  by_cases h0 : m = 0
  · subst h0; rw [pc_nil]; rfl
  · rw [if_neg h0]
    obtain ⟨s, hs⟩ : ∃ s, pc n m = s + 1 := ⟨pc n m - 1, by have : pc n m ≠ 0 := fun z => h0 (pc_zero hm z); omega⟩
    rw [hs, Int.zero_add]; rfl
/-- a way on is taken -/
theorem wf_step {n b j m : Nat} (hj : j < n) : wf n b (j + 1) m = wf n b j m + if b.testBit j = false ∧ m = b + 2 ^ j then fac (pc n b) else 0 := by
  unfold wf
  rw [Int.add_assoc]
  congr 1
  have : (if b.testBit j = false ∧ m = b + 2 ^ j then fac (pc n b) else 0) = sm n fun i => if i = j then (if b.testBit j = false ∧ m = b + 2 ^ j then fac (pc n b) else 0) else 0 := by
    rw [sm_one (a := j) hj (fun i _ hi => if_neg hi), if_pos rfl]
  rw [this, ← sm_plus]
  refine sm_congr fun i hi => ?_
  by_cases hij : i = j
  · subst hij
    rw [if_pos rfl]
    by_cases hc : b.testBit i = false ∧ m = b + 2 ^ i
    · obtain ⟨h1, rfl⟩ := hc
      have ht := tb_add h1 i
      rw [if_pos rfl] at ht
      have hp := pc_add h1 n
      rw [if_pos hi] at hp
      rw [if_pos ⟨ht, by omega⟩, if_neg (by omega), if_pos ⟨h1, rfl⟩, hp]
      simp
    · rw [if_neg hc]
      have : (m.testBit i = true ∧ (m - 2 ^ i < b ∨ (m - 2 ^ i = b ∧ i < i + 1))) ↔ (m.testBit i = true ∧ (m - 2 ^ i < b ∨ (m - 2 ^ i = b ∧ i < i))) := by
        constructor
        · rintro ⟨h1, h2⟩
          refine ⟨h1, ?_⟩
          rcases h2 with h2 | ⟨h2, _⟩
          · exact .inl h2
          · exfalso
            have hge := tb_ge h1
            have hm : m = b + 2 ^ i := by omega
            apply hc
            refine ⟨?_, hm⟩
            cases hb : b.testBit i with
            | false => rfl
            | true =>
              exfalso
              -- b has bit i: then b + 2^i has not
              have hb' := Nat.testBit_eq_decide_div_mod_eq (x := b) (i := i)
              rw [hb] at hb'
              have hb' := of_decide_eq_true hb'.symm
              have hm' := Nat.testBit_eq_decide_div_mod_eq (x := m) (i := i)
              rw [h1] at hm'
              have hm' := of_decide_eq_true hm'.symm
              rw [hm, Nat.add_div_right b (Nat.two_pow_pos i)] at hm'
              omega
        · rintro ⟨h1, h2⟩
          exact ⟨h1, by omega⟩
      simp only [this, Int.add_zero]
  · rw [if_neg hij, Int.add_zero]
    have : (m.testBit i = true ∧ (m - 2 ^ i < b ∨ (m - 2 ^ i = b ∧ i < j + 1))) ↔ (m.testBit i = true ∧ (m - 2 ^ i < b ∨ (m - 2 ^ i = b ∧ i < j))) := by
      constructor <;> rintro ⟨h1, h2⟩ <;> refine ⟨h1, ?_⟩ <;> omega
    simp only [this]
/-- the sum over the groups, by ways -/
theorem groups_mar {n i : Nat} (hi : i < n) (C : Nat → Int) : sm (2 ^ n) (fun m => if m.testBit i then 0 else fac (pc n m) * fac (pc n (2 ^ n - 1 - (m + 2 ^ i))) * (C (m + 2 ^ i) - C m)) = mar n (shw n) C i := by
  refine sm_congr fun m hm => ?_
  by_cases hb : m.testBit i = true
  · simp [hb]
  · have hb : m.testBit i = false := by simpa using hb
    have hp := pc_add hb n
    rw [if_pos hi] at hp
    simp only [hb, Bool.false_eq_true, if_false]
    rw [pc_inv (add_lt hm hi hb), hp]
    unfold shw
    rw [show n - (pc n m + 1) = n - 1 - pc n m by omega]
end Sh


set_option linter.all false
set_option maxRecDepth 100000
set_option maxHeartbeats 2000000
namespace Sh
open Ev

/-! ### groups along a row -/
section
variable (bk : List (List (Int × Int)))
def stp (k : Int) (p : Int × Int) : Int × Int := ((nx bk p.1 k).1, p.2 + (nx bk p.1 k).2)
def grpL (l : List Int) : List (Int × Int) := l.foldl (fun acc k => acc ++ acc.map (stp bk k)) [(0, 0)]
def G (l : List Int) (m : Nat) : Int × Int := (grpL bk l).getD m (0, 0)
theorem grpL_snoc (l : List Int) (k : Int) : grpL bk (l ++ [k]) = grpL bk l ++ (grpL bk l).map (stp bk k) := by
  unfold grpL; rw [List.foldl_append]; rfl
theorem snocInd {P : List Int → Prop} (h0 : P []) (hs : ∀ l k, P l → P (l ++ [k])) : ∀ l, P l := by
  have : ∀ n (l : List Int), l.length = n → P l := by
    intro n
    induction n with
    | zero => intro l h; rw [List.length_eq_zero_iff.mp h]; exact h0
    | succ n ih =>
      intro l h
      rcases List.eq_nil_or_concat l with e | ⟨L, b, e⟩
      · subst e; exact h0
      · rw [List.concat_eq_append] at e
        subst e
        rw [List.length_append, List.length_singleton] at h
        exact hs L b (ih L (by omega))
  exact fun l => this _ l rfl
theorem grpL_len : ∀ l : List Int, (grpL bk l).length = 2 ^ l.length := by
  refine snocInd rfl fun l k h => ?_
  rw [grpL_snoc, List.length_append, List.length_map, h, List.length_append, List.length_singleton, Nat.pow_succ]; omega
theorem G_lo {l : List Int} {k : Int} {m : Nat} (h : m < 2 ^ l.length) : G bk (l ++ [k]) m = G bk l m := by
  unfold G
  rw [grpL_snoc, List.getD_eq_getElem?_getD, List.getElem?_append_left (by rw [grpL_len]; exact h), ← List.getD_eq_getElem?_getD]
theorem G_hi {l : List Int} {k : Int} {m : Nat} (h : m < 2 ^ l.length) : G bk (l ++ [k]) (2 ^ l.length + m) = stp bk k (G bk l m) := by
  unfold G
  have hl := grpL_len bk l
  rw [grpL_snoc, List.getD_eq_getElem?_getD, List.getElem?_append_right (by omega), hl, Nat.add_sub_cancel_left, List.getElem?_map, List.getD_eq_getElem?_getD, List.getElem?_eq_getElem (by omega)]; rfl
theorem G_all : ∀ l : List Int, G bk l (2 ^ l.length - 1) = (stOf bk 0 l, (adOf bk 0 l).sum) := by
  refine snocInd rfl fun l k h => ?_
  have hp := Nat.two_pow_pos l.length
  have e : 2 ^ (l ++ [k]).length - 1 = 2 ^ l.length + (2 ^ l.length - 1) := by
    rw [List.length_append, List.length_singleton, Nat.pow_succ]; omega
  rw [e, G_hi bk (by omega), h, stOf_snoc, adOf_snoc, sum_snoc]; rfl
theorem G_nil (l : List Int) : G bk l 0 = (0, 0) := by
  revert l
  refine snocInd rfl fun l k h => ?_
  rw [G_lo bk (Nat.two_pow_pos _), h]
theorem grpL_range (l : List Int) : grpL bk l = (List.range (2 ^ l.length)).map (G bk l) := by
  apply List.ext_getElem?
  intro i
  by_cases hi : i < 2 ^ l.length
  · have hl := grpL_len bk l
    rw [List.getElem?_map, List.getElem?_range hi, List.getElem?_eq_getElem (by omega)]
    show _ = some ((grpL bk l).getD i (0, 0))
    rw [List.getD_eq_getElem?_getD, List.getElem?_eq_getElem (by omega)]; rfl
  · rw [List.getElem?_eq_none (by rw [grpL_len]; omega), List.getElem?_eq_none (by simp; omega)]
def pstp (k : Int) (p : Int × Int) : Int × Int := ((nx bk p.1 k).1, p.2 + 1)
def prefL (l : List Int) : List (Int × Int) := l.foldl (fun acc k => acc ++ acc.map (pstp bk k)) [(0, 0)]
theorem prefL_snoc (l : List Int) (k : Int) : prefL bk (l ++ [k]) = prefL bk l ++ (prefL bk l).map (pstp bk k) := by
  unfold prefL; rw [List.foldl_append]; rfl
theorem pref_sum : ∀ (l : List Int) (f : Int × Int → Int), ((prefL bk l).map f).sum = sm (2 ^ l.length) fun m => f ((G bk l m).1, (pc l.length m : Int)) := by
  refine snocInd (fun f => by show f (0, 0) + 0 = 0 + f (0, 0); omega) fun l k h f => ?_
  rw [prefL_snoc, List.map_append, List.sum_append, List.map_map, h, h, List.length_append, List.length_singleton, Nat.pow_succ, Nat.mul_two, sm_add]
  congr 1
  · exact sm_congr fun m hm => by rw [G_lo bk hm, pc_lo hm]
  · exact sm_congr fun m hm => by rw [G_hi bk hm, pc_hi hm]; rfl
abbrev PK := Int × Int × Int
def qst (k : Int) (q : PK × Int) : PK × Int := (((nx bk q.1.1 k).1, (nx bk q.1.2.1 k).1, q.1.2.2 + 1), q.2 + ((nx bk q.1.2.1 k).2 - (nx bk q.1.1 k).2))
def pair0 (l : List Int) (k : Int) : List (PK × Int) := (prefL bk l).map fun p => ((p.1, (nx bk p.1 k).1, p.2), (nx bk p.1 k).2)
def pairL (s : List (PK × Int)) (r : List Int) : List (PK × Int) := r.foldl (fun acc k => acc ++ acc.map (qst bk k)) s
theorem pairL_snoc (s : List (PK × Int)) (r : List Int) (k : Int) : pairL bk s (r ++ [k]) = pairL bk s r ++ (pairL bk s r).map (qst bk k) := by
  unfold pairL; rw [List.foldl_append]; rfl
theorem pair_sum (l : List Int) (k : Int) : ∀ (r : List Int) (g : PK × Int → Int), ((pairL bk (pair0 bk l k) r).map g).sum = sm (2 ^ (l ++ k :: r).length) fun m =>
    if m.testBit l.length then 0 else g (((G bk (l ++ k :: r) m).1, (G bk (l ++ k :: r) (m + 2 ^ l.length)).1, (pc (l ++ k :: r).length m : Int)), (G bk (l ++ k :: r) (m + 2 ^ l.length)).2 - (G bk (l ++ k :: r) m).2) := by
  refine snocInd (fun g => ?_) fun r x h g => ?_
  · show ((pair0 bk l k).map g).sum = _
    unfold pair0
    rw [List.map_map, pref_sum, List.length_append, List.length_singleton, Nat.pow_succ, Nat.mul_two, sm_add]
    have z : sm (2 ^ l.length) (fun m => if (2 ^ l.length + m).testBit l.length then (0 : Int) else g (((G bk (l ++ [k]) (2 ^ l.length + m)).1, (G bk (l ++ [k]) (2 ^ l.length + m + 2 ^ l.length)).1, (pc (l.length + 1) (2 ^ l.length + m) : Int)), (G bk (l ++ [k]) (2 ^ l.length + m + 2 ^ l.length)).2 - (G bk (l ++ [k]) (2 ^ l.length + m)).2)) = sm (2 ^ l.length) fun _ => 0 :=
      sm_congr fun m hm => by rw [Nat.testBit_two_pow_add_eq, tb_hi hm (Nat.le_refl _)]; rfl
    rw [z, sm_zero, Int.add_zero]
    refine sm_congr fun m hm => ?_
    rw [tb_hi hm (Nat.le_refl _), G_lo bk hm, Nat.add_comm m, G_hi bk hm, pc_lo hm]
    simp only [Function.comp, stp, Bool.false_eq_true, if_false]
    congr 2
    omega
  · have e : l ++ k :: (r ++ [x]) = (l ++ k :: r) ++ [x] := by simp
    have hi : l.length < (l ++ k :: r).length := by simp
    rw [pairL_snoc, List.map_append, List.sum_append, List.map_map, h, h, e]
    generalize hL : l ++ k :: r = L at hi
    rw [List.length_append, List.length_singleton, Nat.pow_succ, Nat.mul_two, sm_add]
    congr 1
    · refine sm_congr fun m hm => ?_
      by_cases hb : m.testBit l.length = true
      · rw [if_pos hb, if_pos hb]
      · have hb' : m.testBit l.length = false := by simpa using hb
        rw [if_neg hb, if_neg hb, G_lo bk hm, G_lo bk (add_lt hm hi hb'), pc_lo hm]
    · refine sm_congr fun m hm => ?_
      rw [tb_two hi]
      by_cases hb : m.testBit l.length = true
      · rw [if_pos hb, if_pos hb]
      · have hb' : m.testBit l.length = false := by simpa using hb
        rw [if_neg hb, if_neg hb, Nat.add_assoc, G_hi bk hm, G_hi bk (add_lt hm hi hb'), pc_hi hm]
        simp only [Function.comp, stp, qst]
        congr 2
        omega
/-- what a member adds, from the pairs -/
theorem pairs_mar {row : List Int} {i : Nat} {k : Int} (hk : row[i]? = some k) (w : Nat → Int) : ((pairL bk (pair0 bk (row.take i) k) (row.drop (i + 1))).map fun q => w q.1.2.2.toNat * q.2).sum = mar row.length w (fun m => (G bk row m).2) i := by
  have hi := (List.getElem?_eq_some_iff.mp hk).1
  have e : row.take i ++ k :: row.drop (i + 1) = row := by
    have e2 := (List.getElem?_eq_some_iff.mp hk).2
    rw [← e2, ← List.drop_eq_getElem_cons hi, List.take_append_drop]
  have hl : (row.take i).length = i := by rw [List.length_take]; omega
  rw [pair_sum, e, hl]
  exact sm_congr fun m _ => by simp
end

/-! ### dicts that count -/
section
variable {κ V : Type} [DecidableEq κ] (add : V → V → V)
def look : List (κ × V) → κ → Option V
  | [], _ => none | e :: r, k => if e.1 = k then some e.2 else look r k
def addD : List (κ × V) → κ → V → List (κ × V)
  | [], k, v => [(k, v)] | e :: r, k, v => if e.1 = k then (e.1, add e.2 v) :: r else e :: addD r k v
abbrev keysD (D : List (κ × V)) : List κ := D.map (·.1)
theorem addD_mem {D : List (κ × V)} {k : κ} {v : V} : ∀ x, x ∈ keysD (addD add D k v) ↔ x ∈ keysD D ∨ x = k := by
  induction D with
  | nil => intro x; simp [addD, keysD]
  | cons e r ih =>
    intro x
    unfold addD
    by_cases h : e.1 = k
    · rw [if_pos h]
      simp only [keysD, List.map_cons, List.mem_cons]
      constructor
      · rintro (z | z)
        · exact .inl (.inl z)
        · exact .inl (.inr z)
      · rintro ((z | z) | z)
        · exact .inl z
        · exact .inr z
        · exact .inl (z.trans h.symm)
    · rw [if_neg h]
      have := ih x
      simp only [keysD, List.map_cons, List.mem_cons] at this ⊢
      rw [this]
      constructor
      · rintro (z | z | z)
        · exact .inl (.inl z)
        · exact .inl (.inr z)
        · exact .inr z
      · rintro ((z | z) | z)
        · exact .inl z
        · exact .inr (.inl z)
        · exact .inr (.inr z)
theorem addD_nodup {D : List (κ × V)} {k : κ} {v : V} (h : (keysD D).Nodup) : (keysD (addD add D k v)).Nodup := by
  induction D with
  | nil => simp [addD, keysD]
  | cons e r ih =>
    have h' := List.nodup_cons.mp (show (e.1 :: keysD r).Nodup from h)
    unfold addD
    by_cases hk : e.1 = k
    · rw [if_pos hk]; exact h
    · rw [if_neg hk]
      show (e.1 :: keysD (addD add r k v)).Nodup
      refine List.nodup_cons.mpr ⟨fun z => ?_, ih h'.2⟩
      rcases (addD_mem add e.1).mp z with z | z
      · exact h'.1 z
      · exact hk z
theorem addD_len {D : List (κ × V)} {k : κ} {v : V} : (addD add D k v).length ≤ D.length + 1 := by
  induction D with
  | nil => simp [addD]
  | cons e r ih =>
    unfold addD
    split <;> simp only [List.length_cons] <;> omega
theorem addD_sum {D : List (κ × V)} {k : κ} {v : V} (f : κ → V → Int) (hf : ∀ k u v, f k (add u v) = f k u + f k v) : ((addD add D k v).map fun e => f e.1 e.2).sum = (D.map fun e => f e.1 e.2).sum + f k v := by
  induction D with
  | nil => simp [addD]
  | cons e r ih =>
    unfold addD
    by_cases h : e.1 = k
    · rw [if_pos h]
      subst h
      simp only [List.map_cons, List.sum_cons, hf]; omega
    · rw [if_neg h]
      simp only [List.map_cons, List.sum_cons, ih]; omega
theorem look_mem {D : List (κ × V)} (h : (keysD D).Nodup) {e : κ × V} (he : e ∈ D) : look D e.1 = some e.2 := by
  induction D with
  | nil => cases he
  | cons x r ih =>
    have h' := List.nodup_cons.mp (show (x.1 :: keysD r).Nodup from h)
    unfold look
    rcases List.mem_cons.mp he with z | z
    · subst z; rw [if_pos rfl]
    · rw [if_neg (fun w => h'.1 (by rw [w]; exact List.mem_map.mpr ⟨e, z, rfl⟩)), ih h'.2 z]
def encD (ek : κ → List L2.Key) (ev : V → AV) (D : List (κ × V)) : List (List L2.Key × AV) := D.map fun e => (ek e.1, ev e.2)
variable {ek : κ → List L2.Key} {ev : V → AV}
theorem aGet_enc (inj : ∀ a b, ek a = ek b → a = b) (D : List (κ × V)) (k : κ) : aGet (encD ek ev D) (ek k) = (look D k).map ev := by
  unfold aGet
  induction D with
  | nil => rfl
  | cons e r ih =>
    unfold look
    by_cases h : e.1 = k
    · subst h; simp [encD]
    · have h2 : ¬ ek e.1 = ek k := fun z => h (inj _ _ z)
      rw [if_neg h, ← ih]
      simp [encD, h2]
theorem aPut_enc (inj : ∀ a b, ek a = ek b → a = b) {D : List (κ × V)} (h : (keysD D).Nodup) (k : κ) (v : V) :
    aPut (encD ek ev D) (ek k) (ev (match look D k with | none => v | some u => add u v)) = encD ek ev (addD add D k v) := by
  unfold aPut
  have keep : ∀ (D : List (κ × V)) (w : AV), k ∉ keysD D → ((encD ek ev D).map fun kv => if kv.1 = ek k then (kv.1, w) else kv) = encD ek ev D ∧ ((encD ek ev D).any fun kv => decide (kv.1 = ek k)) = false ∧ look D k = none := by
    intro D w hn
    induction D with
    | nil => exact ⟨rfl, rfl, rfl⟩
    | cons e r ih =>
      have hn' : ¬ e.1 = k ∧ k ∉ keysD r := by simpa [keysD, eq_comm] using hn
      have h2 : ¬ ek e.1 = ek k := fun z => hn'.1 (inj _ _ z)
      obtain ⟨a, b, c⟩ := ih hn'.2
      refine ⟨?_, ?_, ?_⟩
      · show (if ek e.1 = ek k then (ek e.1, w) else (ek e.1, ev e.2)) :: _ = _
        rw [if_neg h2]; exact congrArg (List.cons (ek e.1, ev e.2)) a
      · show (decide (ek e.1 = ek k) || ((encD ek ev r).any fun kv => decide (kv.1 = ek k))) = false
        rw [b]; simp [h2]
      · unfold look; rw [if_neg hn'.1]; exact c
  induction D with
  | nil => rfl
  | cons e r ih =>
    have h' := List.nodup_cons.mp (show (e.1 :: keysD r).Nodup from h)
    by_cases hk : e.1 = k
    · subst hk
      obtain ⟨a, b, c⟩ := keep r (ev (add e.2 v)) h'.1
      have e1 : look (e :: r) e.1 = some e.2 := by unfold look; rw [if_pos rfl]
      rw [e1]
      have e2 : addD add (e :: r) e.1 v = (e.1, add e.2 v) :: r := by unfold addD; rw [if_pos rfl]
      rw [e2, if_pos (by simp [encD])]
      show (if ek e.1 = ek e.1 then (ek e.1, ev (add e.2 v)) else (ek e.1, ev e.2)) :: _ = _
      rw [if_pos rfl]; exact congrArg (List.cons (ek e.1, ev (add e.2 v))) a
    · have h2 : ¬ ek e.1 = ek k := fun z => hk (inj _ _ z)
      have ih := ih h'.2
      have e1 : look (e :: r) k = look r k := by
        show (if e.1 = k then some e.2 else look r k) = _
        rw [if_neg hk]
      have e2 : addD add (e :: r) k v = e :: addD add r k v := by
        show (if e.1 = k then _ else _) = _
        rw [if_neg hk]
      rw [e1, e2]
      have e3 : ((encD ek ev (e :: r)).any fun kv => decide (kv.1 = ek k)) = ((encD ek ev r).any fun kv => decide (kv.1 = ek k)) := by
        show (decide (ek e.1 = ek k) || ((encD ek ev r).any fun kv => decide (kv.1 = ek k))) = _
        simp only [h2, decide_false, Bool.false_or]
      rw [e3]
      show (if _ then (if ek e.1 = ek k then _ else (ek e.1, ev e.2)) :: _ else (ek e.1, ev e.2) :: (_ ++ _)) = (ek e.1, ev e.2) :: encD ek ev (addD add r k v)
      rw [← ih, if_neg h2]
      split <;> rfl
end

/-! ### amounts -/
def red (x d : Int) : Int × Int := (x / (Int.gcd x d : Int), d / (Int.gcd x d : Int))
theorem gcd_pos {x d : Int} (hd : 0 < d) : (0 : Int) < (Int.gcd x d : Int) := by
  have : Int.gcd x d ≠ 0 := fun z => by
    have := (Int.gcd_eq_zero_iff.mp z).2
    omega
  omega
theorem red_fst {x d : Int} : x = (red x d).1 * (Int.gcd x d : Int) := (Int.ediv_mul_cancel (Int.gcd_dvd_left ..)).symm
theorem red_snd {x d : Int} : d = (red x d).2 * (Int.gcd x d : Int) := (Int.ediv_mul_cancel (Int.gcd_dvd_right ..)).symm
theorem red_pos {x d : Int} (hd : 0 < d) : 0 < (red x d).2 := Int.ediv_pos_of_pos_of_dvd hd (by omega) (Int.gcd_dvd_right ..)
theorem red_scale {x d k : Int} (hk : 0 < k) (hd : 0 < d) : red (k * x) (k * d) = red x d := by
  unfold red
  rw [Int.gcd_mul_left, Int.natCast_mul, Int.natAbs_of_nonneg (Int.le_of_lt hk), Int.mul_ediv_mul_of_pos _ _ hk, Int.mul_ediv_mul_of_pos _ _ hk]
theorem red_add {x y d : Int} (hd : 0 < d) : red ((red x d).1 * (red y d).2 + (red y d).1 * (red x d).2) ((red x d).2 * (red y d).2) = red (x + y) d := by
  have h1 := gcd_pos (x := x) hd
  have h2 := gcd_pos (x := y) hd
  have p1 := red_pos (x := x) hd
  have p2 := red_pos (x := y) hd
  rw [← red_scale (k := (Int.gcd x d : Int) * (Int.gcd y d : Int)) (Int.mul_pos h1 h2) (Int.mul_pos p1 p2), ← red_scale (x := x + y) (k := d) hd hd]
  have e1 := red_fst (x := x) (d := d)
  have e2 := red_snd (x := x) (d := d)
  have e3 := red_fst (x := y) (d := d)
  have e4 := red_snd (x := y) (d := d)
  generalize (red x d).1 = a at *
  generalize (red x d).2 = b at *
  generalize (red y d).1 = a' at *
  generalize (red y d).2 = b' at *
  generalize (Int.gcd x d : Int) = g at *
  generalize (Int.gcd y d : Int) = g' at *
  congr 1
  · rw [Int.mul_add, Int.mul_add]
    have q1 : g * g' * (a * b') = d * x := by
      have : g * g' * (a * b') = (b' * g') * (a * g) := by ac_rfl
      rw [this, ← e1, ← e4]
    have q2 : g * g' * (a' * b) = d * y := by
      have : g * g' * (a' * b) = (b * g) * (a' * g') := by ac_rfl
      rw [this, ← e3, ← e2]
    rw [q1, q2]
  · have : g * g' * (b * b') = (b * g) * (b' * g') := by ac_rfl
    rw [this, ← e2, ← e4]
theorem red_one {d c : Int} (hd : 0 < d) : red (d * c) d = (c, 1) := by
  have := red_scale (x := c) (d := 1) hd (by decide)
  rw [Int.mul_one] at this
  rw [this]
  unfold red
  rw [Int.gcd_one]
  simp
theorem red_cop {x d : Int} (hd : 0 < d) : Int.gcd (red x d).1 (red x d).2 = 1 := by
  have h1 := gcd_pos (x := x) hd
  have := Int.gcd_mul_right (red x d).1 (Int.gcd x d : Int) (red x d).2
  rw [← red_fst, ← red_snd] at this
  have h2 : Int.gcd (red x d).1 (red x d).2 * Int.gcd x d = 1 * Int.gcd x d := by simpa using this.symm
  exact Nat.eq_of_mul_eq_mul_right (by omega) h2
end Sh


set_option linter.all false
set_option maxRecDepth 100000
set_option maxHeartbeats 4000000
namespace Ev
open PySem L2 Sh

/-! ### heaps that only grow -/
def Ex (A A' : AH) : Prop := ∃ G, A' = A ++ G
theorem Ex.refl (A : AH) : Ex A A := ⟨[], by simp⟩
theorem Ex.trans {A B D : AH} : Ex A B → Ex B D → Ex A D := fun ⟨G, h⟩ ⟨G', h'⟩ => ⟨G ++ G', by rw [h', h, List.append_assoc]⟩
theorem Ex.app {A B : AH} (G : AH) (h : Ex A B) : Ex A (B ++ G) := h.trans ⟨G, rfl⟩
theorem Ex.len {A B : AH} : Ex A B → A.length ≤ B.length := fun ⟨G, h⟩ => by rw [h]; simp
theorem Ex.set {A B : AH} {n : Nat} (h : Ex A B) (hn : A.length ≤ n) (o : AO) : Ex A (B.set n o) := by
  obtain ⟨G, rfl⟩ := h
  exact ⟨G.set (n - A.length) o, by rw [List.set_append_right _ _ hn]⟩
theorem Ex.get {A B : AH} {n : Nat} {o : AO} (h : Ex A B) (e : A[n]? = some o) : B[n]? = some o := by
  obtain ⟨G, rfl⟩ := h
  rw [List.getElem?_append_left (List.getElem?_eq_some_iff.mp e).1]; exact e
theorem Ex.fr {A B : AH} {d : Nat} (h : Ex A B) (D : Dr A d) : Fr d A B := by
  obtain ⟨G, rfl⟩ := h
  exact Fr.app D G
theorem get_lt {A : AH} {n : Nat} {o : AO} (e : A[n]? = some o) : n < A.length := (List.getElem?_eq_some_iff.mp e).1
theorem get_new (A : AH) (o : AO) : (A ++ [o])[A.length]? = some o := by simp
theorem get_app {A : AH} {n : Nat} {o : AO} (e : A[n]? = some o) (G : AH) : (A ++ G)[n]? = some o := by
  rw [List.getElem?_append_left (get_lt e)]; exact e
theorem get_set {A : AH} {n : Nat} {o : AO} (h : n < A.length) : (A.set n o)[n]? = some o := by simp [h]
theorem get_set_ne {A : AH} {n i : Nat} {o u : AO} (e : A[i]? = some u) (h : i ≠ n) : (A.set n o)[i]? = some u := by
  rw [List.getElem?_set_ne (Ne.symm h)]; exact e
section
variable {c : Cfg} {t : T} {e e2 : E} {b : List S} {σ : Sl} {A : AH}
theorem forN2 {i j : Int} (h1 : evE c e σ A = .ok (.int i) A) (h2 : evE c e2 σ A = .ok (.int j) A) (hb : -(2 ^ 62) ≤ i ∧ i < 2 ^ 62 ∧ -(2 ^ 62) ≤ j ∧ j < 2 ^ 62) : evS c (.for_ t (.range2 e e2) b) σ A =
    forGo (Itm.val ((List.range (j - i).toNat).map fun (k : Nat) => AV.int (i + k))).chk (fun x σ A => evTg c t x σ A) (fun σ A => evSs c b σ A) ((List.range (j - i).toNat).map fun (k : Nat) => AV.int (i + k)) σ A := by
  rw [evS_for, evI_range2, h1]
  simp only [Res.bind, h2, if_pos hb, Res.out, items_val, behind_val]
/-- a walk over a dict's keys that always runs to its end -/
theorem forK_end {n : Nat} {kvs : List (List Key × AV)} {A' : AH} (h : evE c e σ A = .ok (.ref n) A') (h2 : A'[n]? = some (.dT false kvs)) (I : Nat → Sl → AH → Prop) (h0 : I 0 σ (A'.set n (.dT true kvs)))
    (hc : ∀ i σ A, I i σ A → A[n]? = some (.dT true kvs))
    (step : ∀ i kv σ A, kvs[i]? = some kv → I i σ A → ∃ σ2 A2, evTg c t (.tup (kv.1.map unK)) σ A = .ok σ2 A2 ∧ ∃ σ3 A3, evSs c b σ2 A2 = .next σ3 A3 ∧ I (i + 1) σ3 A3) :
    ∃ σ' A'', evS c (.for_ t (.v e) b) σ A = .next σ' (A''.set n (.dT false kvs)) ∧ I kvs.length σ' A'' := by
  obtain ⟨σ', A'', q1, q2⟩ := for_end (chk := (Itm.keys n true kvs).chk) (tg := fun x σ A => evTg c t x σ A) (body := fun σ A => evSs c b σ A) (xs := kvs.map fun kv => AV.tup (kv.1.map unK)) I h0 (fun i σ A _ hi => chk_keys (hc i σ A hi)) (fun i x σ A hx hi => by
    rw [List.getElem?_map] at hx
    obtain ⟨kv, hk, rfl⟩ := Option.map_eq_some_iff.mp hx
    exact step i kv σ A hk hi)
  rw [List.length_map] at q2
  refine ⟨σ', A'', ?_, q2⟩
  rw [forK h h2, q1]; rfl
end

/-! ### amounts -/
def bAmount : List S := [.if_ (.cmp .lt (.var 1) (.lit (.int 0))) [.asg (.name 0) (.neg (.var 0)),
      .asg (.name 1) (.neg (.var 1))] [],
    .asg (.name 2) (.bif .gcd [(.var 0), (.var 1)]),
    .ret (.tup [(.bin .fdiv (.var 0) (.var 2)), (.bin .fdiv (.var 1) (.var 2))])]
def bLgcd : List S := [.asg (.name 0) (.bif .abs [(.var 0)]),
    .asg (.name 1) (.bif .abs [(.var 1)]),
    .while_ (.cmp .ne (.var 1) (.lit (.int 0))) [.par 0 1 (.var 1) (.bin .mod (.bif .int_ [(.var 0)]) (.var 1))],
    .ret (.var 0)]
def bLamount : List S := [.if_ (.cmp .lt (.var 1) (.lit (.int 0))) [.asg (.name 0) (.neg (.var 0)),
      .asg (.name 1) (.neg (.var 1))] [],
    .asg (.name 2) (.call "_law_gcd" [(.var 0), (.var 1)] []),
    .ret (.tup [(.bin .fdiv (.var 0) (.var 2)), (.bin .fdiv (.var 1) (.var 2))])]
def bLadd : List S := [.ret (.call "_law_amount" [(.bin .add (.bin .mul (.ix (.var 0) (.lit (.int 0))) (.ix (.var 1) (.lit (.int 1)))) (.bin .mul (.ix (.var 1) (.lit (.int 0))) (.ix (.var 0) (.lit (.int 1))))), (.bin .mul (.ix (.var 0) (.lit (.int 1))) (.ix (.var 1) (.lit (.int 1))))] [])]
def bLisAmount : List S := [.if_ (.or (.not (.call "_law_is_ints" [(.var 0)] [])) (.cmp .ne (.bif .len [(.var 0)]) (.lit (.int 2)))) [.ret (.lit (.bl false))] [],
    .ret (.and (.cmp .ge (.ix (.var 0) (.lit (.int 1))) (.lit (.int 1))) (.cmp .eq (.call "_law_gcd" [(.ix (.var 0) (.lit (.int 0))), (.ix (.var 0) (.lit (.int 1)))] []) (.lit (.int 1))))]
def bLshape : List S := [.ret (.and (.bif .isinst [(.var 0), (.lit (.ty "tuple"))]) (.cmp .eq (.bif .len [(.var 0)]) (.var 1)))]
def bLtariff : List S := [.ret (.and (.call "_law_is_shape" [(.var 0), (.var 1)] []) (.lf .all (.comp [2] (.v (.var 0)) (.name 2) (.lit (.bl true)) (.call "_law_is_amount" [(.var 2)] []))))]
def lgcdIs (c : Cfg) : Prop := ∀ A (a b : Int), b.natAbs < 2 ^ 100 → c.fn "_law_gcd" [.int a, .int b] A = .ok (.int (Int.gcd a b)) A
def lamountIs (c : Cfg) : Prop := ∀ A (n d : Int), 0 < d → d < 2 ^ 64 → c.fn "_law_amount" [.int n, .int d] A = .ok (pairV (red n d)) A
section
variable (c : Cfg) (A : AH)
theorem two_le' : 2 ≤ sizeLine := Nat.le_of_lt (size_big (by omega))
theorem gcd_small {n d : Int} (hd : 0 < d) (hz : d < 2 ^ 64) : (0 : Int) < (Int.gcd n d : Int) ∧ ((Int.gcd n d : Int)).natAbs.log2 < 9000 := by
  have h1 := gcd_pos (x := n) hd
  have h2 : (Int.gcd n d : Int) ≤ d := Int.le_of_dvd hd (Int.gcd_dvd_right ..)
  exact ⟨h1, small_log h1 (by omega)⟩
theorem amount_ev {n d : Int} (hd : 0 < d) (hz : d < 2 ^ 64) : (evSs c bAmount [some (.int n), some (.int d), none] A).fin = .ok (pairV (red n d)) A := by
  obtain ⟨h1, h2⟩ := gcd_small (n := n) hd hz
  have h0 : ¬ d < 0 := by omega
  have g : aBif .gcd [.int n, .int d] A = .ok (.int (Int.gcd n d)) A := rfl
  simp [bAmount, h0, g, fdiv_int _ h1 h2, two_le', pairV, red]
theorem wh_gcd : ∀ (n : Nat) (a b : Nat), b < n → whGo (fun σ A => evT c (.cmp .ne (.var 1) (.lit (.int 0))) σ A) (fun σ A => evSs c [.par 0 1 (.var 1) (.bin .mod (.bif .int_ [(.var 0)]) (.var 1))] σ A) n [some (.int a), some (.int b)] A =
    .next [some (.int (Nat.gcd a b)), some (.int 0)] A
  | 0, a, b, h => by omega
  | n + 1, a, b, h => by
    by_cases hb : b = 0
    · subst hb
      have t : evT c (.cmp .ne (.var 1) (.lit (.int 0))) [some (.int a), some (.int (0 : Nat))] A = .ok false A := by simp
      simp only [whGo, t, Res.out, Nat.gcd_zero_right, Bool.false_eq_true, if_false]
      rfl
    · have h0 : (0 : Int) < b := by omega
      have hne : ¬ ((b : Int) = 0) := by omega
      have ih := wh_gcd n b (a % b) (by have := Nat.mod_lt a (by omega : 0 < b); omega)
      have hg : Nat.gcd b (a % b) = Nat.gcd a b := by rw [Nat.gcd_comm b, ← Nat.gcd_rec, Nat.gcd_comm]
      rw [hg] at ih
      have t : evT c (.cmp .ne (.var 1) (.lit (.int 0))) [some (.int a), some (.int b)] A = .ok true A := by simp [hb]
      have hm : aBin .mod (.int (a : Int)) (.int (b : Int)) A = .ok (.int ((a % b : Nat) : Int)) A := by rw [mod_int _ h0, Int.natCast_emod]
      generalize a % b = r at ih hm
      have bd : evSs c [.par 0 1 (.var 1) (.bin .mod (.bif .int_ [(.var 0)]) (.var 1))] [some (.int a), some (.int b)] A = .next [some (.int b), some (.int r)] A := by simp [hm]
      simp only [whGo, t, Res.out, bd, Out.turn, if_true]
      exact ih
theorem lgcd_ev {a b : Int} (h : b.natAbs < c.fuel) : (evSs c bLgcd [some (.int a), some (.int b)] A).fin = .ok (.int (Int.gcd a b)) A := by
  have e1 : aBif .abs [.int a] A = .ok (.int ((a.natAbs : Nat) : Int)) A := by
    rw [abs_int]; congr 2; split <;> omega
  have e2 : aBif .abs [.int b] A = .ok (.int ((b.natAbs : Nat) : Int)) A := by
    rw [abs_int]; congr 2; split <;> omega
  have w := wh_gcd c A c.fuel a.natAbs b.natAbs h
  rw [← evS_while] at w
  show _ = Res.ok (AV.int ((Nat.gcd a.natAbs b.natAbs : Nat) : Int)) A
  generalize a.natAbs = p at *
  generalize b.natAbs = q at *
  simp only [bLgcd, evSs_cons, evS_asg, evE_bif, evEs_cons, evE_var, List.getElem?_cons_zero, List.getElem?_cons_succ, bind_ok, kCons_eq, evEs_nil, kCons2_eq, e1, out_ok, kAsg_eq, evTg_name, seq_next, kSs_eq, List.set_cons_zero, List.set_cons_succ, e2, w]
  simp
theorem lamount_ev (G : lgcdIs c) {n d : Int} (hd : 0 < d) (hz : d < 2 ^ 64) : (evSs c bLamount [some (.int n), some (.int d), none] A).fin = .ok (pairV (red n d)) A := by
  obtain ⟨h1, h2⟩ := gcd_small (n := n) hd hz
  have h0 : ¬ d < 0 := by omega
  have g := G A n d (by omega)
  simp [bLamount, h0, g, fdiv_int _ h1 h2, two_le', pairV, red]
theorem ladd_ev (H : lamountIs c) {a b : Int × Int} (h1 : 0 < a.2) (h2 : a.2 < 2 ^ 32) (h3 : 0 < b.2) (h4 : b.2 < 2 ^ 32) : (evSs c bLadd [some (pairV a), some (pairV b)] A).fin = .ok (pairV (red (a.1 * b.2 + b.1 * a.2) (a.2 * b.2))) A := by
  have p1 : 0 < a.2 * b.2 := Int.mul_pos h1 h3
  have p2 : a.2 * b.2 < 2 ^ 64 := by
    have q1 : a.2 * b.2 ≤ a.2 * 2 ^ 32 := Int.mul_le_mul_of_nonneg_left (by omega) (by omega)
    omega
  have g := H A (a.1 * b.2 + b.1 * a.2) (a.2 * b.2) p1 p2
  simp [bLadd, pairV, ixTup, atI0, atI1, mul_r _ (i := a.1) (j := b.2) (by omega), mul_r _ (i := b.1) (j := a.2) (by omega), mul_r _ (i := a.2) (j := b.2) (by omega), g]
theorem good_pair (p : Int × Int) : Good A (pairV p) := .tup (fun z hz => by
  rcases List.mem_cons.mp hz with h | h
  · subst h; exact .int _
  · rw [List.mem_singleton.mp h]; exact .int _) two_le'
theorem lis_amount_ev (G : lgcdIs c) (hi : ∀ A x, Good A x → c.fn "_law_is_ints" [x] A = .ok (.bl (intsB x)) A) {p : Int × Int} (h1 : 1 ≤ p.2) (h2 : p.2 < 2 ^ 64) (h3 : Int.gcd p.1 p.2 = 1) : (evSs c bLisAmount [some (pairV p)] A).fin = .ok (.bl true) A := by
  have q1 := hi A (pairV p) (good_pair A p)
  have q2 : intsB (pairV p) = true := rfl
  rw [q2] at q1
  have q3 := G A p.1 p.2 (by omega)
  rw [h3] at q3
  simp only [pairV] at q1
  simp [bLisAmount, pairV, q1, ixTup, atI0, atI1, h1, q3]
theorem lshape_ev {x : AV} (g : Good A x) {n : Int} : (evSs c bLshape [some x, some (.int n)] A).fin = .ok (.bl (match x with | .tup xs => decide ((xs.length : Int) = n) | _ => false)) A := by
  cases ht : isT x with
  | false =>
    simp [bLshape, g.t, ht]
    cases x <;> first | rfl | cases ht
  | true =>
    obtain ⟨xs, rfl⟩ := isT_cases ht
    simp [bLshape, g.t]
end
end Ev


set_option linter.all false
set_option maxRecDepth 100000
set_option maxHeartbeats 4000000
namespace Ev
open PySem L2 Sh

/-! ### counts of groups in dicts (plain) -/
def padd (u v : Int × Int) : Int × Int := (u.1 + v.1, u.2 + v.2)
def iadd (u v : Int) : Int := u + v
def ek1 (k : Int × Int) : List Key := [.inl k.1, .inl k.2]
def ek2 (k : PK) : List Key := [.inl k.1, .inl k.2.1, .inl k.2.2]
theorem ek1_inj (a b : Int × Int) (h : ek1 a = ek1 b) : a = b := by
  unfold ek1 at h
  injection h with h1 h2
  injection h2 with h3 h4
  injection h1 with h1
  injection h3 with h3
  exact Prod.ext h1 h3
theorem ek2_inj (a b : PK) (h : ek2 a = ek2 b) : a = b := by
  unfold ek2 at h
  injection h with h1 h2
  injection h2 with h3 h4
  injection h4 with h5 h6
  injection h1 with h1
  injection h3 with h3
  injection h5 with h5
  exact Prod.ext h1 (Prod.ext h3 h5)
abbrev D1 := List ((Int × Int) × Int)
abbrev D2 := List (PK × (Int × Int))
def Rep1 (D : D1) (L : List (Int × Int)) : Prop := ∀ f : Int × Int → Int, (D.map fun e => f e.1 * e.2).sum = (L.map f).sum
def Rep2 (D : D2) (L : List (PK × Int)) : Prop := ∀ f g : PK → Int, (D.map fun e => f e.1 * e.2.1 + g e.1 * e.2.2).sum = (L.map fun q => f q.1 + g q.1 * q.2).sum
structure DK1 (D : D1) (states j : Nat) : Prop where
  nd : (keysD D).Nodup
  len : D.length ≤ 2 ^ j
  key : ∀ e ∈ D, 0 ≤ e.1.1 ∧ e.1.1 < states ∧ 0 ≤ e.1.2 ∧ e.1.2 ≤ j
structure DK2 (D : D2) (states j : Nat) : Prop where
  nd : (keysD D).Nodup
  len : D.length ≤ 2 ^ j
  key : ∀ e ∈ D, 0 ≤ e.1.1 ∧ e.1.1 < states ∧ 0 ≤ e.1.2.1 ∧ e.1.2.1 < states ∧ 0 ≤ e.1.2.2 ∧ e.1.2.2 ≤ j
section
variable {κ V : Type} [DecidableEq κ] {add : V → V → V}
theorem addD_key {P : κ → Prop} {D : List (κ × V)} {k : κ} {v : V} (h : ∀ e ∈ D, P e.1) (hk : P k) : ∀ e ∈ addD add D k v, P e.1 := fun e he => by
  rcases (addD_mem add e.1).mp (List.mem_map.mpr ⟨e, he, rfl⟩) with z | z
  · obtain ⟨e', h1, h2⟩ := List.mem_map.mp z
    rw [← h2]; exact h e' h1
  · rw [z]; exact hk
/-- a run of additions -/
def adds (add : V → V → V) (N : List (κ × V)) (L : List (κ × V)) : List (κ × V) := L.foldl (fun N e => addD add N e.1 e.2) N
theorem adds_snoc (N L : List (κ × V)) (e : κ × V) : adds add N (L ++ [e]) = addD add (adds add N L) e.1 e.2 := by unfold adds; rw [List.foldl_append]; rfl
theorem adds_app (N L M : List (κ × V)) : adds add N (L ++ M) = adds add (adds add N L) M := by unfold adds; rw [List.foldl_append]
theorem adds_nodup : ∀ (L : List (κ × V)) {N : List (κ × V)}, (keysD N).Nodup → (keysD (adds add N L)).Nodup
  | [], _, h => h
  | e :: r, _, h => adds_nodup r (addD_nodup add h)
theorem adds_len : ∀ (L : List (κ × V)) (N : List (κ × V)), (adds add N L).length ≤ N.length + L.length
  | [], _ => Nat.le_refl _
  | e :: r, N => by
    have h1 := adds_len r (addD add N e.1 e.2)
    have h2 := addD_len add (D := N) (k := e.1) (v := e.2)
    show (adds add (addD add N e.1 e.2) r).length ≤ N.length + (r.length + 1)
    omega
theorem adds_key {P : κ → Prop} : ∀ (L : List (κ × V)) {N : List (κ × V)}, (∀ e ∈ N, P e.1) → (∀ e ∈ L, P e.1) → ∀ e ∈ adds add N L, P e.1
  | [], _, h, _ => h
  | x :: r, _, h, hl => adds_key r (addD_key h (hl x (by simp))) fun e he => hl e (List.mem_cons_of_mem _ he)
theorem adds_sum (f : κ → V → Int) (hf : ∀ k u v, f k (add u v) = f k u + f k v) : ∀ (L N : List (κ × V)), ((adds add N L).map fun e => f e.1 e.2).sum = (N.map fun e => f e.1 e.2).sum + (L.map fun e => f e.1 e.2).sum
  | [], N => by show _ = _ + 0; rw [Int.add_zero]; rfl
  | x :: r, N => by
    show ((adds add (addD add N x.1 x.2) r).map _).sum = _
    rw [adds_sum f hf r, addD_sum add f hf, List.map_cons, List.sum_cons, Int.add_assoc]
end
section
variable (bk : List (List (Int × Int))) (k : Int)
/-- what an entry of the counts gives to the next ones -/
def nxt1 (e : (Int × Int) × Int) : D1 := [(e.1, e.2), (pstp bk k e.1, e.2)]
def key0 (p : Int × Int) : PK := (p.1, (nx bk p.1 k).1, p.2)
def nxt0 (e : (Int × Int) × Int) : D2 := [(key0 bk k e.1, (e.2, (nx bk e.1.1 k).2 * e.2))]
def key2 (p : PK) : PK := ((nx bk p.1 k).1, (nx bk p.2.1 k).1, p.2.2 + 1)
def dif2 (p : PK) : Int := (nx bk p.2.1 k).2 - (nx bk p.1 k).2
def nxt2 (e : PK × (Int × Int)) : D2 := [(e.1, e.2), (key2 bk k e.1, (e.2.1, e.2.2 + e.2.1 * dif2 bk k e.1))]
theorem flat2_len {α β : Type} (f : α → List β) (n : Nat) (h : ∀ a, (f a).length = n) : ∀ L : List α, (L.flatMap f).length = n * L.length
  | [] => by simp
  | a :: r => by rw [List.flatMap_cons, List.length_append, h, flat2_len f n h r, List.length_cons, Nat.mul_add]; omega
theorem sum_flat {α β : Type} (f : α → List β) (g : β → Int) : ∀ L : List α, ((L.flatMap f).map g).sum = (L.map fun a => ((f a).map g).sum).sum
  | [] => rfl
  | a :: r => by rw [List.flatMap_cons, List.map_append, List.sum_append, sum_flat f g r, List.map_cons, List.sum_cons]
theorem rep1_next {D : D1} {L : List (Int × Int)} (h : Rep1 D L) : Rep1 (adds iadd [] (D.flatMap (nxt1 bk k))) (L ++ L.map (pstp bk k)) := fun f => by
  rw [adds_sum (add := iadd) (fun (p : Int × Int) (v : Int) => f p * v) (fun p u v => Int.mul_add ..), sum_flat, List.map_append, List.sum_append, List.map_map]
  have := h fun p => f p + f (pstp bk k p)
  have e : (D.map fun a => ((nxt1 bk k a).map fun e => f e.1 * e.2).sum) = D.map fun e => (f e.1 + f (pstp bk k e.1)) * e.2 := List.map_congr_left fun e _ => by
    simp [nxt1, Int.add_mul]
  rw [e, this]
  have s : ∀ l : List (Int × Int), (l.map fun p => f p + f (pstp bk k p)).sum = (l.map f).sum + (l.map (f ∘ pstp bk k)).sum := fun l => by
    induction l with
    | nil => rfl
    | cons x r ih => simp only [List.map_cons, List.sum_cons, ih, Function.comp]; omega
  rw [s]; show (0 : Int) + _ = _; omega
theorem rep0_next {D : D1} {l : List Int} (h : Rep1 D (prefL bk l)) : Rep2 (adds padd [] (D.flatMap (nxt0 bk k))) (pair0 bk l k) := fun f g => by
  rw [adds_sum (add := padd) (fun (p : PK) (v : Int × Int) => f p * v.1 + g p * v.2) (fun p u v => by simp only [padd, Int.mul_add]; omega), sum_flat]
  have := h fun p => f (key0 bk k p) + g (key0 bk k p) * (nx bk p.1 k).2
  have e : (D.map fun a => ((nxt0 bk k a).map fun e => f e.1 * e.2.1 + g e.1 * e.2.2).sum) = D.map fun e => (f (key0 bk k e.1) + g (key0 bk k e.1) * (nx bk e.1.1 k).2) * e.2 := List.map_congr_left fun e _ => by
    simp [nxt0, Int.add_mul, Int.mul_assoc]
  rw [e, this]
  unfold pair0
  rw [List.map_map]
  show (0 : Int) + _ = _
  rw [Int.zero_add]; rfl
theorem rep2_next {D : D2} {L : List (PK × Int)} (h : Rep2 D L) : Rep2 (adds padd [] (D.flatMap (nxt2 bk k))) (L ++ L.map (qst bk k)) := fun f g => by
  rw [adds_sum (add := padd) (fun (p : PK) (v : Int × Int) => f p * v.1 + g p * v.2) (fun p u v => by simp only [padd, Int.mul_add]; omega), sum_flat, List.map_append, List.sum_append, List.map_map]
  have := h (fun p => f p + f (key2 bk k p) + g (key2 bk k p) * dif2 bk k p) (fun p => g p + g (key2 bk k p))
  have e : (D.map fun a => ((nxt2 bk k a).map fun e => f e.1 * e.2.1 + g e.1 * e.2.2).sum) = D.map fun e => (f e.1 + f (key2 bk k e.1) + g (key2 bk k e.1) * dif2 bk k e.1) * e.2.1 + (g e.1 + g (key2 bk k e.1)) * e.2.2 := List.map_congr_left fun e _ => by
    simp only [nxt2, List.map_cons, List.map_nil, List.sum_cons, List.sum_nil, Int.add_mul, Int.mul_add]
    have : g (key2 bk k e.1) * dif2 bk k e.1 * e.2.1 = g (key2 bk k e.1) * (e.2.1 * dif2 bk k e.1) := by ac_rfl
    rw [this]; omega
  rw [e, this]
  have s : ∀ l : List (PK × Int), (l.map fun q => (f q.1 + f (key2 bk k q.1) + g (key2 bk k q.1) * dif2 bk k q.1) + (g q.1 + g (key2 bk k q.1)) * q.2).sum = (l.map fun q => f q.1 + g q.1 * q.2).sum + (l.map ((fun q => f q.1 + g q.1 * q.2) ∘ qst bk k)).sum := fun l => by
    induction l with
    | nil => rfl
    | cons x r ih =>
      simp only [List.map_cons, List.sum_cons, ih, Function.comp]
      have e1 : (qst bk k x).1 = key2 bk k x.1 := rfl
      have e2 : (qst bk k x).2 = x.2 + dif2 bk k x.1 := rfl
      rw [e1, e2, Int.mul_add, Int.add_mul]; omega
  rw [s]; show (0 : Int) + _ = _; omega
theorem nxt1_len (a : (Int × Int) × Int) : (nxt1 bk k a).length = 2 := rfl
theorem nxt2_len (a : PK × (Int × Int)) : (nxt2 bk k a).length = 2 := rfl
theorem nxt0_len (a : (Int × Int) × Int) : (nxt0 bk k a).length = 1 := rfl
end
section
variable {bk : List (List (Int × Int))} {kinds states : Nat} {lo hi : Int} {k : Int}
theorem nx_get {s : Int} (h : BkOk bk kinds states lo hi) (h0 : 0 ≤ s) (h1 : s < states) (h2 : 0 ≤ k) (h3 : k < kinds) :
    (∃ r, (∀ A, aIx (bookV bk) (.int s) A = some (rowV r)) ∧ ∀ A, aIx (rowV r) (.int k) A = some (pairV (nx bk s k))) ∧ 0 ≤ (nx bk s k).1 ∧ (nx bk s k).1 < states ∧ lo ≤ (nx bk s k).2 ∧ (nx bk s k).2 ≤ hi := by
  obtain ⟨n, rfl⟩ : ∃ n : Nat, s = n := ⟨s.toNat, by omega⟩
  obtain ⟨j, rfl⟩ : ∃ j : Nat, k = j := ⟨k.toNat, by omega⟩
  have hn : n < bk.length := by rw [h.len]; omega
  obtain ⟨hr, hp⟩ := h.row bk[n] (List.getElem_mem hn)
  have hj : j < bk[n].length := by rw [hr]; omega
  have e : nx bk n j = bk[n][j] := by
    unfold nx
    simp [List.getD_eq_getElem?_getD, hn, hj]
  refine ⟨⟨bk[n], fun A => ?_, fun A => ?_⟩, ?_⟩
  · exact atI_nat (by rw [List.getElem?_map, List.getElem?_eq_getElem hn]; rfl)
  · rw [e]; exact atI_nat (by rw [List.getElem?_map, List.getElem?_eq_getElem hj]; rfl)
  · rw [e]
    exact hp _ (List.getElem_mem hj)
theorem dk1_next (h : BkOk bk kinds states lo hi) (h2 : 0 ≤ k) (h3 : k < kinds) {D : D1} {j : Nat} (d : DK1 D states j) : DK1 (adds iadd [] (D.flatMap (nxt1 bk k))) states (j + 1) := by
  refine ⟨adds_nodup _ List.nodup_nil, ?_, adds_key _ (P := fun (p : Int × Int) => 0 ≤ p.1 ∧ p.1 < states ∧ 0 ≤ p.2 ∧ p.2 ≤ ((j + 1 : Nat) : Int)) (fun _ h => (by cases h)) fun e he => ?_⟩
  · have h1 := adds_len (add := iadd) (D.flatMap (nxt1 bk k)) []
    rw [flat2_len _ 2 (nxt1_len bk k)] at h1
    have := d.len
    rw [Nat.pow_succ]
    simp only [List.length_nil] at h1
    omega
  · obtain ⟨a, ha, h4⟩ := List.mem_flatMap.mp he
    obtain ⟨q1, q2, q3, q4⟩ := d.key a ha
    obtain ⟨_, n1, n2, _, _⟩ := nx_get h q1 q2 h2 h3
    simp only [nxt1, List.mem_cons, List.not_mem_nil, or_false] at h4
    rcases h4 with z | z
    · rw [z]; exact ⟨q1, q2, q3, by show a.1.2 ≤ _; omega⟩
    · rw [z]; exact ⟨n1, n2, by show 0 ≤ a.1.2 + 1; omega, by show a.1.2 + 1 ≤ _; omega⟩
theorem dk0_next (h : BkOk bk kinds states lo hi) (h2 : 0 ≤ k) (h3 : k < kinds) {D : D1} {j : Nat} (d : DK1 D states j) : DK2 (adds padd [] (D.flatMap (nxt0 bk k))) states j := by
  refine ⟨adds_nodup _ List.nodup_nil, ?_, adds_key _ (P := fun (p : PK) => 0 ≤ p.1 ∧ p.1 < states ∧ 0 ≤ p.2.1 ∧ p.2.1 < states ∧ 0 ≤ p.2.2 ∧ p.2.2 ≤ (j : Int)) (fun _ h => (by cases h)) fun e he => ?_⟩
  · have h1 := adds_len (add := padd) (D.flatMap (nxt0 bk k)) []
    rw [flat2_len _ 1 (nxt0_len bk k)] at h1
    have := d.len
    simp only [List.length_nil] at h1
    omega
  · obtain ⟨a, ha, h4⟩ := List.mem_flatMap.mp he
    obtain ⟨q1, q2, q3, q4⟩ := d.key a ha
    obtain ⟨_, n1, n2, _, _⟩ := nx_get h q1 q2 h2 h3
    simp only [nxt0, List.mem_cons, List.not_mem_nil, or_false] at h4
    rw [h4]; exact ⟨q1, q2, n1, n2, q3, q4⟩
theorem dk2_next (h : BkOk bk kinds states lo hi) (h2 : 0 ≤ k) (h3 : k < kinds) {D : D2} {j : Nat} (d : DK2 D states j) : DK2 (adds padd [] (D.flatMap (nxt2 bk k))) states (j + 1) := by
  refine ⟨adds_nodup _ List.nodup_nil, ?_, adds_key _ (P := fun (p : PK) => 0 ≤ p.1 ∧ p.1 < states ∧ 0 ≤ p.2.1 ∧ p.2.1 < states ∧ 0 ≤ p.2.2 ∧ p.2.2 ≤ ((j + 1 : Nat) : Int)) (fun _ h => (by cases h)) fun e he => ?_⟩
  · have h1 := adds_len (add := padd) (D.flatMap (nxt2 bk k)) []
    rw [flat2_len _ 2 (nxt2_len bk k)] at h1
    have := d.len
    rw [Nat.pow_succ]
    simp only [List.length_nil] at h1
    omega
  · obtain ⟨a, ha, h4⟩ := List.mem_flatMap.mp he
    obtain ⟨q1, q2, q3, q4, q5, q6⟩ := d.key a ha
    obtain ⟨_, n1, n2, _, _⟩ := nx_get h q1 q2 h2 h3
    obtain ⟨_, m1, m2, _, _⟩ := nx_get h q3 q4 h2 h3
    simp only [nxt2, List.mem_cons, List.not_mem_nil, or_false] at h4
    rcases h4 with z | z
    · rw [z]; exact ⟨q1, q2, q3, q4, q5, by show a.1.2.2 ≤ _; omega⟩
    · rw [z]; exact ⟨n1, n2, m1, m2, by show 0 ≤ a.1.2.2 + 1; omega, by show a.1.2.2 + 1 ≤ _; omega⟩
end

/-! ### one step on a dict -/
def kV1 (k : Int × Int) : AV := .tup [.int k.1, .int k.2]
def kV2 (k : PK) : AV := .tup [.int k.1, .int k.2.1, .int k.2.2]
section
variable {A : AH} {n : Nat} {fz : Bool}
theorem ix1 {D : D1} (hA : A[n]? = some (.dT fz (encD ek1 AV.int D))) (nd : (keysD D).Nodup) {e : (Int × Int) × Int} (he : e ∈ D) : aIx (.ref n) (kV1 e.1) A = some (.int e.2) := by
  show (match A[n]? with | some (.dT _ kvs) => (keyOf (kV1 e.1)).bind fun k => aGet kvs k | _ => none) = _
  rw [hA]
  show aGet _ (ek1 e.1) = _
  rw [aGet_enc ek1_inj, look_mem nd he]; rfl
theorem ix2 {D : D2} (hA : A[n]? = some (.dT fz (encD ek2 pairV D))) (nd : (keysD D).Nodup) {e : PK × (Int × Int)} (he : e ∈ D) : aIx (.ref n) (kV2 e.1) A = some (pairV e.2) := by
  show (match A[n]? with | some (.dT _ kvs) => (keyOf (kV2 e.1)).bind fun k => aGet kvs k | _ => none) = _
  rw [hA]
  show aGet _ (ek2 e.1) = _
  rw [aGet_enc ek2_inj, look_mem nd he]; rfl
theorem bump1 {D : D1} (hA : A[n]? = some (.dT false (encD ek1 AV.int D))) (nd : (keysD D).Nodup) (hz : D.length < sizeLine) (k : Int × Int) (v : Int) :
    ∃ u, aMth .get2 (.ref n) [kV1 k, .int 0] A = .ok (.int u) A ∧ aSet (.ref n) (kV1 k) (.int (u + v)) A = some (A.set n (.dT false (encD ek1 AV.int (addD iadd D k v)))) := by
  have p := aPut_enc (add := iadd) (ev := AV.int) ek1_inj nd k v
  have g := aGet_enc (ev := AV.int) ek1_inj D k
  have m1 : ∀ d, aMth .get2 (.ref n) [kV1 k, d] A = .ok ((aGet (encD ek1 AV.int D) (ek1 k)).getD d) A := fun d => by simp only [aMth, hA]; rfl
  have s1 : ∀ v, aSet (.ref n) (kV1 k) v A = some (A.set n (.dT false (aPut (encD ek1 AV.int D) (ek1 k) v))) := fun v => by
    show (match A[n]?, keyOf (kV1 k) with | some (.dT false kvs), some k => if kvs.length < sizeLine then some (A.set n (.dT false (aPut kvs k v))) else none | _, _ => none) = _
    rw [hA]
    have hz' : (encD ek1 AV.int D).length < sizeLine := by rw [encD, List.length_map]; exact hz
    show (if (encD ek1 AV.int D).length < sizeLine then _ else _) = _
    rw [if_pos hz']; rfl
  cases q : look D k with
  | none =>
    rw [q] at p g
    exact ⟨0, by rw [m1, g]; rfl, by rw [s1, Int.zero_add]; exact congrArg some (congrArg (fun z => A.set n (.dT false z)) p)⟩
  | some u =>
    rw [q] at p g
    exact ⟨u, by rw [m1, g]; rfl, by rw [s1]; exact congrArg some (congrArg (fun z => A.set n (.dT false z)) p)⟩
theorem bump2 {D : D2} (hA : A[n]? = some (.dT false (encD ek2 pairV D))) (nd : (keysD D).Nodup) (hz : D.length < sizeLine) (k : PK) (v : Int × Int) :
    ∃ u, aMth .get2 (.ref n) [kV2 k, .tup [.int 0, .int 0]] A = .ok (pairV u) A ∧ aSet (.ref n) (kV2 k) (.tup [.int (u.1 + v.1), .int (u.2 + v.2)]) A = some (A.set n (.dT false (encD ek2 pairV (addD padd D k v)))) := by
  have p := aPut_enc (add := padd) (ev := pairV) ek2_inj nd k v
  have g := aGet_enc (ev := pairV) ek2_inj D k
  have m1 : ∀ d, aMth .get2 (.ref n) [kV2 k, d] A = .ok ((aGet (encD ek2 pairV D) (ek2 k)).getD d) A := fun d => by simp only [aMth, hA]; rfl
  have s1 : ∀ v, aSet (.ref n) (kV2 k) v A = some (A.set n (.dT false (aPut (encD ek2 pairV D) (ek2 k) v))) := fun v => by
    show (match A[n]?, keyOf (kV2 k) with | some (.dT false kvs), some k => if kvs.length < sizeLine then some (A.set n (.dT false (aPut kvs k v))) else none | _, _ => none) = _
    rw [hA]
    have hz' : (encD ek2 pairV D).length < sizeLine := by rw [encD, List.length_map]; exact hz
    show (if (encD ek2 pairV D).length < sizeLine then _ else _) = _
    rw [if_pos hz']; rfl
  cases q : look D k with
  | none =>
    rw [q] at p g
    exact ⟨(0, 0), by rw [m1, g]; rfl, by rw [s1, Int.zero_add, Int.zero_add]; exact congrArg some (congrArg (fun z => A.set n (.dT false z)) p)⟩
  | some u =>
    rw [q] at p g
    exact ⟨u, by rw [m1, g]; rfl, by rw [s1]; exact congrArg some (congrArg (fun z => A.set n (.dT false z)) p)⟩
theorem mthTy_dT {kvs : List (List Key × AV)} (h : A[n]? = some (.dT false kvs)) : mthTy .get2 (.ref n) A = true := by simp only [mthTy, h]; rfl
end
end Ev


set_option linter.all false
set_option maxRecDepth 100000
set_option maxHeartbeats 8000000
namespace Ev
open PySem L2 Sh

/-! ### the program's counts: walks -/
theorem ixp0 (p : Int × Int) (A : AH) : aIx (pairV p) (.int 0) A = some (.int p.1) := by
  show atI [AV.int p.1, AV.int p.2] 0 = _
  exact atI0 _ _
theorem ixp1 (p : Int × Int) (A : AH) : aIx (pairV p) (.int 1) A = some (.int p.2) := by
  show atI [AV.int p.1, AV.int p.2] 1 = _
  exact atI1 _ _ _
def bPrefix : List S := [.asg (.name 2) (.dct [(.tup [(.lit (.int 0)), (.lit (.int 0))]), (.lit (.int 1))]),
    .for_ (.name 3) (.v (.var 1)) [.asg (.name 4) .dnew,
      .for_ (.name 5) (.v (.var 2)) [.asg (.tup [(.name 7), (.name 8)]) (.var 5),
        .asg (.name 6) (.tup [(.ix (.ix (.ix (.var 0) (.var 7)) (.var 3)) (.lit (.int 0))), (.bin .add (.var 8) (.lit (.int 1)))]),
        .asg (.sub (.var 4) (.var 5)) (.bin .add (.mth .get2 (.var 4) [(.var 5), (.lit (.int 0))]) (.ix (.var 2) (.var 5))),
        .asg (.sub (.var 4) (.var 6)) (.bin .add (.mth .get2 (.var 4) [(.var 6), (.lit (.int 0))]) (.ix (.var 2) (.var 5)))],
      .asg (.name 2) (.var 4)],
    .ret (.var 2)]
def bGrown : List S := [.asg (.name 4) (.mth .get2 (.var 0) [(.var 1), (.tup [(.lit (.int 0)), (.lit (.int 0))])]),
    .asg (.sub (.var 0) (.var 1)) (.tup [(.bin .add (.ix (.var 4) (.lit (.int 0))) (.var 2)), (.bin .add (.ix (.var 4) (.lit (.int 1))) (.var 3))])]
def grownIs (c : Cfg) : Prop := ∀ A n (N : D2) (k : PK) (m x : Int), A[n]? = some (.dT false (encD ek2 pairV N)) → (keysD N).Nodup → N.length < sizeLine →
  c.fn "grown" [.ref n, kV2 k, .int m, .int x] A = .ok .non (A.set n (.dT false (encD ek2 pairV (addD padd N k (m, x)))))
theorem grown_ev (c : Cfg) {A : AH} {n : Nat} {N : D2} {k : PK} {m x : Int} (hA : A[n]? = some (.dT false (encD ek2 pairV N))) (nd : (keysD N).Nodup) (hz : N.length < sizeLine) :
    (evSs c bGrown [some (.ref n), some (kV2 k), some (.int m), some (.int x), none] A).fin = .ok .non (A.set n (.dT false (encD ek2 pairV (addD padd N k (m, x))))) := by
  obtain ⟨u, h1, h2⟩ := bump2 hA nd hz k (m, x)
  have i0 : aIx (pairV u) (.int 0) A = some (.int u.1) := ixp0 _ _
  have i1 : aIx (pairV u) (.int 1) A = some (.int u.2) := ixp1 _ _
  simp [bGrown, mthTy_dT hA, h1, i0, i1, two_le', h2]
section
variable {bk : List (List (Int × Int))} {kinds states : Nat} {lo hi : Int}
theorem take_get {α : Type} {xs : List α} {i : Nat} {x : α} (h : xs[i]? = some x) : xs.take (i + 1) = xs.take i ++ [x] := by rw [List.take_succ, h]; rfl
theorem flat_take {α β : Type} {xs : List α} {i : Nat} {x : α} (f : α → List β) (h : xs[i]? = some x) : (xs.take (i + 1)).flatMap f = (xs.take i).flatMap f ++ f x := by rw [take_get h, List.flatMap_append]; simp
theorem enc_get {κ V : Type} {ek : κ → List Key} {ev : V → AV} {D : List (κ × V)} {i : Nat} {kv : List Key × AV} (h : (encD ek ev D)[i]? = some kv) : ∃ e, D[i]? = some e ∧ kv = (ek e.1, ev e.2) := by
  unfold encD at h
  rw [List.getElem?_map] at h
  obtain ⟨e, h1, h2⟩ := Option.map_eq_some_iff.mp h
  exact ⟨e, h1, h2.symm⟩
theorem unK1 (k : Int × Int) : AV.tup ((ek1 k).map unK) = kV1 k := rfl
theorem unK2 (k : PK) : AV.tup ((ek2 k).map unK) = kV2 k := rfl
theorem pow20 {j : Nat} (h : j ≤ 18) : 2 ^ j ≤ 262144 := by
  have := Nat.pow_le_pow_right (show 0 < 2 by decide) h
  exact this
theorem aput_one (v : AV) (k : List Key) : mergeA [] [(k, v)] = [(k, v)] := rfl
def prefIs (c : Cfg) (bk : List (List (Int × Int))) (kinds states : Nat) : Prop := ∀ A (l : List Int), inB l kinds → l.length ≤ 16 → ∃ A' n D, c.fn "prefix_counts" [bookV bk, rowI l] A = .ok (.ref n) A' ∧ Ex A A' ∧ A.length ≤ n ∧ A'[n]? = some (.dT false (encD ek1 AV.int D)) ∧
  DK1 D states l.length ∧ Rep1 D (prefL bk l)
theorem prefix_ev (c : Cfg) (A : AH) (h : BkOk bk kinds states lo hi) (hs : 0 < states) {l : List Int} (hl : inB l kinds) (hz : l.length ≤ 16) : ∃ A' n D, (evSs c bPrefix [some (bookV bk), some (rowI l), none, none, none, none, none, none, none] A).fin = .ok (.ref n) A' ∧ Ex A A' ∧ A.length ≤ n ∧
    A'[n]? = some (.dT false (encD ek1 AV.int D)) ∧ DK1 D states l.length ∧ Rep1 D (prefL bk l) := by
  -- the loop over the row
  have loop : ∃ σ' A', evS c (.for_ (.name 3) (.v (.var 1)) [.asg (.name 4) .dnew,
      .for_ (.name 5) (.v (.var 2)) [.asg (.tup [(.name 7), (.name 8)]) (.var 5),
        .asg (.name 6) (.tup [(.ix (.ix (.ix (.var 0) (.var 7)) (.var 3)) (.lit (.int 0))), (.bin .add (.var 8) (.lit (.int 1)))]),
        .asg (.sub (.var 4) (.var 5)) (.bin .add (.mth .get2 (.var 4) [(.var 5), (.lit (.int 0))]) (.ix (.var 2) (.var 5))),
        .asg (.sub (.var 4) (.var 6)) (.bin .add (.mth .get2 (.var 4) [(.var 6), (.lit (.int 0))]) (.ix (.var 2) (.var 5)))],
      .asg (.name 2) (.var 4)]) [some (bookV bk), some (rowI l), some (.ref A.length), none, none, none, none, none, none] (A ++ [.dT false (encD ek1 AV.int [((0, 0), 1)])]) = .next σ' A' ∧
      ∃ n D o3 o4 o5 o6 o7 o8, σ' = [some (bookV bk), some (rowI l), some (.ref n), o3, o4, o5, o6, o7, o8] ∧ Ex A A' ∧ A.length ≤ n ∧ A'[n]? = some (.dT false (encD ek1 AV.int D)) ∧ DK1 D states (l.map AV.int).length ∧ Rep1 D (prefL bk (l.take (l.map AV.int).length)) := by
    rw [forV (xs := l.map .int) rfl]
    refine for_end (fun i σ' A' => ∃ n D o3 o4 o5 o6 o7 o8, σ' = [some (bookV bk), some (rowI l), some (.ref n), o3, o4, o5, o6, o7, o8] ∧ Ex A A' ∧ A.length ≤ n ∧ A'[n]? = some (.dT false (encD ek1 AV.int D)) ∧ DK1 D states i ∧ Rep1 D (prefL bk (l.take i)))
      ⟨A.length, [((0, 0), 1)], none, none, none, none, none, none, rfl, ⟨_, rfl⟩, Nat.le_refl _, get_new _ _, ⟨by simp [keysD], by simp, fun e he => ?_⟩, fun f => ?_⟩ (fun _ _ _ _ _ => rfl) (fun i x σ A1 hx ⟨n, D, o3, o4, o5, o6, o7, o8, e, ex, hn, hA, dk, rep⟩ => ?_)
    · rw [List.mem_singleton.mp he]; exact ⟨Int.le_refl _, by show (0 : Int) < states; omega, Int.le_refl _, by show (0 : Int) ≤ _; omega⟩
    · show f (0, 0) * 1 + 0 = f (0, 0) + 0; omega
    subst e
    obtain ⟨k, hk, rfl⟩ := row_get hx
    have hin := hl k (List.mem_of_getElem? hk)
    have hi : i < l.length := (List.getElem?_eq_some_iff.mp hk).1
    refine ⟨_, _, rfl, ?_⟩
    -- the loop over the counts
    have hnl := get_lt hA
    have hA0 : (A1 ++ [AO.dT false []])[n]? = some (.dT false (encD ek1 AV.int D)) := get_app hA _
    have dl : D.length ≤ 262144 := Nat.le_trans dk.len (pow20 (by omega))
    obtain ⟨σ2, A2, q1, o5', o6', o7', o8', hσ, ex2, hAn, hAm⟩ := forK_end (c := c) (t := .name 5) (e := .var 2) (b := [.asg (.tup [(.name 7), (.name 8)]) (.var 5),
        .asg (.name 6) (.tup [(.ix (.ix (.ix (.var 0) (.var 7)) (.var 3)) (.lit (.int 0))), (.bin .add (.var 8) (.lit (.int 1)))]),
        .asg (.sub (.var 4) (.var 5)) (.bin .add (.mth .get2 (.var 4) [(.var 5), (.lit (.int 0))]) (.ix (.var 2) (.var 5))),
        .asg (.sub (.var 4) (.var 6)) (.bin .add (.mth .get2 (.var 4) [(.var 6), (.lit (.int 0))]) (.ix (.var 2) (.var 5)))])
      (σ := [some (bookV bk), some (rowI l), some (.ref n), some (.int k), some (.ref A1.length), o5, o6, o7, o8]) (A := A1 ++ [.dT false []]) (n := n) (kvs := encD ek1 AV.int D) (A' := A1 ++ [.dT false []]) rfl hA0
      (fun j σ A' => ∃ o5 o6 o7 o8, σ = [some (bookV bk), some (rowI l), some (.ref n), some (.int k), some (.ref A1.length), o5, o6, o7, o8] ∧ Ex A A' ∧ A'[n]? = some (.dT true (encD ek1 AV.int D)) ∧ A'[A1.length]? = some (.dT false (encD ek1 AV.int (adds iadd [] ((D.take j).flatMap (nxt1 bk k))))))
      ⟨o5, o6, o7, o8, rfl, (ex.app _).set hn _, get_set (by simp; omega), get_set_ne (get_new _ _) (by omega)⟩ (fun j σ A' hj => by obtain ⟨_, _, _, _, _, _, h, _⟩ := hj; exact h) (fun j kv σ B hkv hj => by
        obtain ⟨o5, o6, o7, o8, rfl, exB, hBn, hBm⟩ := hj
        obtain ⟨e, he, rfl⟩ := enc_get hkv
        have hD := List.mem_of_getElem? he
        obtain ⟨b1, b2, b3, b4⟩ := dk.key e hD
        obtain ⟨⟨r, i1, i2⟩, n1, n2, _, _⟩ := nx_get h b1 b2 hin.1 hin.2
        refine ⟨[some (bookV bk), some (rowI l), some (.ref n), some (.int k), some (.ref A1.length), some (kV1 e.1), o6, o7, o8], B, rfl, ?_⟩
        have i3 : ∀ A, aIx (pairV (nx bk e.1.1 k)) (.int 0) A = some (.int (nx bk e.1.1 k).1) := fun A => ixp0 _ _
        have nl : ∀ L : D1, L.length ≤ 2 * (j + 1) → (adds iadd ([] : D1) L).length < sizeLine := fun L hL => by
          have := adds_len (add := iadd) L []
          have hj : j < D.length := (List.getElem?_eq_some_iff.mp he).1
          simp only [List.length_nil] at this
          exact size_big (by omega)
        have l1 : ((D.take j).flatMap (nxt1 bk k)).length ≤ 2 * j := by
          rw [flat2_len _ 2 (nxt1_len bk k), List.length_take]; omega
        have g1 : aIx (.ref n) (kV1 e.1) B = some (.int e.2) := ix1 hBn dk.nd hD
        obtain ⟨u, m1, s1⟩ := bump1 hBm (adds_nodup _ List.nodup_nil) (nl _ (by omega)) e.1 e.2
        -- behind the first
        have hml : A1.length < B.length := get_lt hBm
        have hne : n ≠ A1.length := by omega
        have hB2n : (B.set A1.length (.dT false (encD ek1 AV.int (addD iadd (adds iadd [] ((D.take j).flatMap (nxt1 bk k))) e.1 e.2))))[n]? = some (.dT true (encD ek1 AV.int D)) := get_set_ne hBn hne
        have hB2m : (B.set A1.length (.dT false (encD ek1 AV.int (addD iadd (adds iadd [] ((D.take j).flatMap (nxt1 bk k))) e.1 e.2))))[A1.length]? = some (.dT false (encD ek1 AV.int (addD iadd (adds iadd [] ((D.take j).flatMap (nxt1 bk k))) e.1 e.2))) := get_set hml
        have exB2 := exB.set (n := A1.length) (by have := ex.len; omega) (.dT false (encD ek1 AV.int (addD iadd (adds iadd [] ((D.take j).flatMap (nxt1 bk k))) e.1 e.2)))
        generalize hB2 : B.set A1.length (.dT false (encD ek1 AV.int (addD iadd (adds iadd [] ((D.take j).flatMap (nxt1 bk k))) e.1 e.2))) = B2 at hB2n hB2m exB2 s1
        have g2 : aIx (.ref n) (kV1 e.1) B2 = some (.int e.2) := ix1 hB2n dk.nd hD
        obtain ⟨u2, m2, s2⟩ := bump1 hB2m (addD_nodup _ (adds_nodup _ List.nodup_nil)) (by
          have h1 := addD_len iadd (D := adds iadd ([] : D1) ((D.take j).flatMap (nxt1 bk k))) (k := e.1) (v := e.2)
          have h2 := adds_len (add := iadd) ((D.take j).flatMap (nxt1 bk k)) ([] : D1)
          have hj : j < D.length := (List.getElem?_eq_some_iff.mp he).1
          simp only [List.length_nil] at h2
          exact size_big (by omega)) (pstp bk k e.1) e.2
        have exB3 := exB2.set (n := A1.length) (by have := ex.len; omega) (.dT false (encD ek1 AV.int (addD iadd (addD iadd (adds iadd [] ((D.take j).flatMap (nxt1 bk k))) e.1 e.2) (pstp bk k e.1) e.2)))
        have hB2l : A1.length < B2.length := get_lt hB2m
        refine ⟨[some (bookV bk), some (rowI l), some (.ref n), some (.int k), some (.ref A1.length), some (kV1 e.1), some (kV1 (pstp bk k e.1)), some (.int e.1.1), some (.int e.1.2)], B2.set A1.length (.dT false (encD ek1 AV.int (addD iadd (addD iadd (adds iadd [] ((D.take j).flatMap (nxt1 bk k))) e.1 e.2) (pstp bk k e.1) e.2))), ?_,
          some (kV1 e.1), some (kV1 (pstp bk k e.1)), some (.int e.1.1), some (.int e.1.2), rfl, exB3, get_set_ne hB2n hne, ?_⟩
        · have i0 : evTg c (.tup [(.name 7), (.name 8)]) (kV1 e.1) [some (bookV bk), some (rowI l), some (.ref n), some (.int k), some (.ref A1.length), some (kV1 e.1), o6, o7, o8] B =
              .ok [some (bookV bk), some (rowI l), some (.ref n), some (.int k), some (.ref A1.length), some (kV1 e.1), o6, some (.int e.1.1), some (.int e.1.2)] B := rfl
          have k6 : AV.tup [.int (nx bk e.1.1 k).1, .int (e.1.2 + 1)] = kV1 (pstp bk k e.1) := rfl
          simp [i0, i1, i2, i3, two_le', k6, mthTy_dT hBm, m1, g1, s1, mthTy_dT hB2m, m2, g2, s2]
        · rw [get_set hB2l, flat_take _ he, adds_app]; rfl)
    have hA2l : n < A2.length := get_lt hAn
    have hlen : (encD ek1 AV.int D).length = D.length := by unfold encD; rw [List.length_map]
    rw [hlen, List.take_length] at hAm
    subst hσ
    refine ⟨[some (bookV bk), some (rowI l), some (.ref A1.length), some (.int k), some (.ref A1.length), o5', o6', o7', o8'], A2.set n (.dT false (encD ek1 AV.int D)), ?_, A1.length, _, _, _, _, _, _, _, rfl, ex2.set hn _, ex.len, get_set_ne hAm (by omega), dk1_next h hin.1 hin.2 dk, ?_⟩
    · simp [q1]
    · rw [take_succ' hk, prefL_snoc]; exact rep1_next bk k rep
  obtain ⟨σ', A', h1, n, D, o3, o4, o5, o6, o7, o8, rfl, ex, hn, hA, dk, rep⟩ := loop
  rw [List.length_map] at dk rep
  rw [List.take_length] at rep
  refine ⟨A', n, D, ?_, ex, hn, hA, dk, rep⟩
  have p1 : pairsK [.tup [.int 0, .int 0], .int 1] = some [(ek1 (0, 0), .int 1)] := rfl
  have p2 : mergeA [] [(ek1 (0, 0), AV.int 1)] = encD ek1 AV.int [((0, 0), 1)] := rfl
  simp [bPrefix, two_le', p1, p2, h1]
end
end Ev


set_option linter.all false
set_option maxRecDepth 100000
set_option maxHeartbeats 8000000
namespace Ev
open PySem L2 Sh

def lpA : List S := [.asg (.tup [(.name 8), (.name 9)]) (.ix (.ix (.var 0) (.var 6)) (.var 4)),
      .expr (.call "grown" [(.var 3), (.tup [(.var 6), (.var 8), (.var 7)]), (.ix (.var 5) (.tup [(.var 6), (.var 7)])), (.bin .mul (.var 9) (.ix (.var 5) (.tup [(.var 6), (.var 7)])))] [])]
def lpB : List S := [.asg (.tup [(.name 14), (.name 15)]) (.ix (.var 3) (.var 11)),
        .asg (.tup [(.name 16), (.name 17), (.name 7)]) (.var 11),
        .asg (.name 12) (.ix (.ix (.var 0) (.var 16)) (.var 4)),
        .asg (.name 13) (.ix (.ix (.var 0) (.var 17)) (.var 4)),
        .expr (.call "grown" [(.var 10), (.var 11), (.var 14), (.var 15)] []),
        .expr (.call "grown" [(.var 10), (.tup [(.ix (.var 12) (.lit (.int 0))), (.ix (.var 13) (.lit (.int 0))), (.bin .add (.var 7) (.lit (.int 1)))]), (.var 14), (.bin .add (.var 15) (.bin .mul (.var 14) (.bin .sub (.ix (.var 13) (.lit (.int 1))) (.ix (.var 12) (.lit (.int 1))))))] [])]
def bPairC : List S := [.asg (.name 3) .dnew,
    .asg (.name 4) (.ix (.var 1) (.var 2)),
    .asg (.name 5) (.call "prefix_counts" [(.var 0), (.sl (.var 1) none (some (.var 2)))] []),
    .for_ (.tup [(.name 6), (.name 7)]) (.v (.var 5)) lpA,
    .for_ (.name 4) (.v (.sl (.var 1) (some (.bin .add (.var 2) (.lit (.int 1)))) none)) [.asg (.name 10) .dnew,
      .for_ (.name 11) (.v (.var 3)) lpB,
      .asg (.name 3) (.var 10)],
    .ret (.var 3)]
def bSums : List S := [.asg (.name 3) (.bin .mul (.new (.disp [(.lit (.int 0))])) (.bif .len [(.var 1)])),
    .asg (.name 4) (.call "pair_counts" [(.var 0), (.var 1), (.var 2)] []),
    .for_ (.name 5) (.v (.var 4)) [.augs (.var 3) (.ix (.var 5) (.lit (.int 2))) .add (.ix (.ix (.var 4) (.var 5)) (.lit (.int 1)))],
    .ret (.var 3)]
theorem cut_to {α : Type} (xs : List α) (n : Nat) : cut xs none (some (n : Int)) = xs.take n := by
  unfold cut
  rw [HT.sIx_none, HT.sIx_nat, List.drop_zero, Nat.sub_zero, Nat.min_def]
  split
  · rfl
  · rw [List.take_length, List.take_of_length_le (by omega)]
theorem cut_from {α : Type} (xs : List α) (n : Nat) : cut xs (some (n : Int)) none = xs.drop n := by
  unfold cut
  rw [HT.sIx_none, HT.sIx_nat, Nat.min_def]
  split
  · exact List.take_of_length_le (by rw [List.length_drop]; omega)
  · rw [List.drop_length, List.drop_eq_nil_iff.mpr (by omega), List.take_nil]
theorem rowI_to (l : List Int) (n : Nat) (A : AH) : aSl (rowI l) none (some (n : Int)) A = .ok (rowI (l.take n)) A := by
  show Res.ok (AV.tup (cut (l.map AV.int) none (some (n : Int)))) A = _
  rw [cut_to, ← List.map_take]; rfl
theorem rowI_from (l : List Int) (n : Nat) (A : AH) : aSl (rowI l) (some (n : Int)) none A = .ok (rowI (l.drop n)) A := by
  show Res.ok (AV.tup (cut (l.map AV.int) (some (n : Int)) none)) A = _
  rw [cut_from, ← List.map_drop]; rfl
theorem rowI_at {l : List Int} {i : Nat} {k : Int} (h : l[i]? = some k) (A : AH) : aIx (rowI l) (.int (i : Int)) A = some (.int k) := atI_nat (by rw [List.getElem?_map, h]; rfl)
section
variable {bk : List (List (Int × Int))} {kinds states : Nat} {lo hi : Int}
def pairIs (c : Cfg) (bk : List (List (Int × Int))) (kinds states : Nat) : Prop := ∀ A (l : List Int) (i : Nat) (k : Int), inB l kinds → l.length ≤ 16 → l[i]? = some k → ∃ A' n D, c.fn "pair_counts" [bookV bk, rowI l, .int i] A = .ok (.ref n) A' ∧ Ex A A' ∧ A.length ≤ n ∧ A'[n]? = some (.dT false (encD ek2 pairV D)) ∧
  DK2 D states (l.length - 1) ∧ Rep2 D (pairL bk (pair0 bk (l.take i) k) (l.drop (i + 1)))
/-- the first loop -/
theorem loopA (c : Cfg) (gr : grownIs c) (A B : AH) (h : BkOk bk kinds states lo hi) (hb : -1000000 ≤ lo ∧ hi ≤ 1000000) {k : Int} (k0 : 0 ≤ k) (k1 : k < kinds) {D : D1} {j : Nat} (dk : DK1 D states j) (hj : j ≤ 17) (w : AV) {n3 n5 : Nat} (o6 o7 o8 o9 : Option AV) (tl : List (Option AV))
    (ex : Ex A B) (e3 : A.length ≤ n3) (h35 : n3 < n5) (h3 : B[n3]? = some (.dT false [])) (h5 : B[n5]? = some (.dT false (encD ek1 AV.int D))) (m : AV) :
    ∃ B' o6' o7' o8' o9', evS c (.for_ (.tup [(.name 6), (.name 7)]) (.v (.var 5)) lpA) ([some (bookV bk), some w, some m, some (.ref n3), some (.int k), some (.ref n5), o6, o7, o8, o9] ++ tl) B = .next ([some (bookV bk), some w, some m, some (.ref n3), some (.int k), some (.ref n5), o6', o7', o8', o9'] ++ tl) B' ∧
      Ex A B' ∧ B'[n3]? = some (.dT false (encD ek2 pairV (adds padd [] (D.flatMap (nxt0 bk k))))) := by
  have dl : D.length ≤ 262144 := Nat.le_trans dk.len (pow20 (by omega))
  obtain ⟨σ2, A2, q1, o6', o7', o8', o9', hσ, ex2, hA5, hA3⟩ := forK_end (c := c) (t := .tup [(.name 6), (.name 7)]) (e := .var 5) (b := lpA) (σ := [some (bookV bk), some w, some m, some (.ref n3), some (.int k), some (.ref n5), o6, o7, o8, o9] ++ tl) (A := B) (n := n5) (kvs := encD ek1 AV.int D) (A' := B) rfl h5
    (fun i σ A' => ∃ o6 o7 o8 o9, σ = [some (bookV bk), some w, some m, some (.ref n3), some (.int k), some (.ref n5), o6, o7, o8, o9] ++ tl ∧ Ex A A' ∧ A'[n5]? = some (.dT true (encD ek1 AV.int D)) ∧ A'[n3]? = some (.dT false (encD ek2 pairV (adds padd [] ((D.take i).flatMap (nxt0 bk k))))))
    ⟨o6, o7, o8, o9, rfl, ex.set (by omega) _, get_set (get_lt h5), get_set_ne h3 (by omega)⟩ (fun i σ A' hj => by obtain ⟨_, _, _, _, _, _, h, _⟩ := hj; exact h) (fun i kv σ B2 hkv hi => by
      obtain ⟨o6, o7, o8, o9, rfl, exB, hB5, hB3⟩ := hi
      obtain ⟨e, he, rfl⟩ := enc_get hkv
      have hD := List.mem_of_getElem? he
      have hil : i < D.length := (List.getElem?_eq_some_iff.mp he).1
      obtain ⟨b1, b2, b3, b4⟩ := dk.key e hD
      obtain ⟨⟨r, i1, i2⟩, n1, n2, v1, v2⟩ := nx_get h b1 b2 k0 k1
      have l1 : ((D.take i).flatMap (nxt0 bk k)).length ≤ i := by
        rw [flat2_len _ 1 (nxt0_len bk k), List.length_take]; omega
      have l2 := adds_len (add := padd) ((D.take i).flatMap (nxt0 bk k)) ([] : D2)
      simp only [List.length_nil] at l2
      have g1 : aIx (.ref n5) (kV1 e.1) B2 = some (.int e.2) := ix1 hB5 dk.nd hD
      have mu : aBin .mul (.int (nx bk e.1.1 k).2) (.int e.2) B2 = .ok (.int ((nx bk e.1.1 k).2 * e.2)) B2 := mul_l _ (by omega)
      have g := gr B2 n3 (adds padd [] ((D.take i).flatMap (nxt0 bk k))) (key0 bk k e.1) e.2 ((nx bk e.1.1 k).2 * e.2) hB3 (adds_nodup _ List.nodup_nil) (size_big (by omega))
      refine ⟨[some (bookV bk), some w, some m, some (.ref n3), some (.int k), some (.ref n5), some (.int e.1.1), some (.int e.1.2), o8, o9] ++ tl, B2, rfl, [some (bookV bk), some w, some m, some (.ref n3), some (.int k), some (.ref n5), some (.int e.1.1), some (.int e.1.2), some (.int (nx bk e.1.1 k).1), some (.int (nx bk e.1.1 k).2)] ++ tl,
        B2.set n3 (.dT false (encD ek2 pairV (addD padd (adds padd [] ((D.take i).flatMap (nxt0 bk k))) (key0 bk k e.1) (e.2, (nx bk e.1.1 k).2 * e.2)))), ?_, _, _, _, _, rfl, exB.set (by omega) _, get_set_ne hB5 (by omega), ?_⟩
      · have i0 : evTg c (.tup [(.name 8), (.name 9)]) (pairV (nx bk e.1.1 k)) ([some (bookV bk), some w, some m, some (.ref n3), some (.int k), some (.ref n5), some (.int e.1.1), some (.int e.1.2), o8, o9] ++ tl) B2 =
            .ok ([some (bookV bk), some w, some m, some (.ref n3), some (.int k), some (.ref n5), some (.int e.1.1), some (.int e.1.2), some (.int (nx bk e.1.1 k).1), some (.int (nx bk e.1.1 k).2)] ++ tl) B2 := rfl
        have k1' : AV.tup [.int e.1.1, .int e.1.2] = kV1 e.1 := rfl
        have k2' : AV.tup [.int e.1.1, .int (nx bk e.1.1 k).1, .int e.1.2] = kV2 (key0 bk k e.1) := rfl
        have z3 : 3 ≤ sizeLine := Nat.le_of_lt (size_big (by omega))
        simp [lpA] at i0 ⊢
        simp [i1, i2, i0, two_le', z3, k1', k2', g1, mu, g]
      · rw [get_set (get_lt hB3), flat_take _ he, adds_app]; rfl)
  have hlen : (encD ek1 AV.int D).length = D.length := by unfold encD; rw [List.length_map]
  rw [hlen, List.take_length] at hA3
  exact ⟨_, o6', o7', o8', o9', by rw [q1, hσ], ex2.set (by omega) _, get_set_ne hA3 (by omega)⟩
/-- the inner loop of the second one -/
theorem loopB (c : Cfg) (gr : grownIs c) (A B : AH) (h : BkOk bk kinds states lo hi) (hb : -1000000 ≤ lo ∧ hi ≤ 1000000) {k : Int} (k0 : 0 ≤ k) (k1 : k < kinds) {D : D2} {j : Nat} (dk : DK2 D states j) (hj : j ≤ 17) (w m : AV) {n3 n10 : Nat} (o5 o6 o7 o8 o9 o11 o12 o13 o14 o15 o16 o17 : Option AV)
    (ex : Ex A B) (e3 : A.length ≤ n3) (h35 : n3 < n10) (h3 : B[n3]? = some (.dT false (encD ek2 pairV D))) (h10 : B[n10]? = some (.dT false [])) :
    ∃ B' p7 p11 p12 p13 p14 p15 p16 p17, evS c (.for_ (.name 11) (.v (.var 3)) lpB) [some (bookV bk), some w, some m, some (.ref n3), some (.int k), o5, o6, o7, o8, o9, some (.ref n10), o11, o12, o13, o14, o15, o16, o17] B = .next [some (bookV bk), some w, some m, some (.ref n3), some (.int k), o5, o6, p7, o8, o9, some (.ref n10), p11, p12, p13, p14, p15, p16, p17] B' ∧
      Ex A B' ∧ B'[n10]? = some (.dT false (encD ek2 pairV (adds padd [] (D.flatMap (nxt2 bk k))))) := by
  have dl : D.length ≤ 262144 := Nat.le_trans dk.len (pow20 (by omega))
  obtain ⟨σ2, A2, q1, o7', o11', o12', o13', o14', o15', o16', o17', hσ, ex2, hA3, hA10⟩ := forK_end (c := c) (t := .name 11) (e := .var 3) (b := lpB) (σ := [some (bookV bk), some w, some m, some (.ref n3), some (.int k), o5, o6, o7, o8, o9, some (.ref n10), o11, o12, o13, o14, o15, o16, o17]) (A := B) (n := n3) (kvs := encD ek2 pairV D) (A' := B) rfl h3
    (fun i σ A' => ∃ o7 o11 o12 o13 o14 o15 o16 o17, σ = [some (bookV bk), some w, some m, some (.ref n3), some (.int k), o5, o6, o7, o8, o9, some (.ref n10), o11, o12, o13, o14, o15, o16, o17] ∧ Ex A A' ∧ A'[n3]? = some (.dT true (encD ek2 pairV D)) ∧ A'[n10]? = some (.dT false (encD ek2 pairV (adds padd [] ((D.take i).flatMap (nxt2 bk k))))))
    ⟨o7, o11, o12, o13, o14, o15, o16, o17, rfl, ex.set (by omega) _, get_set (get_lt h3), get_set_ne h10 (by omega)⟩ (fun i σ A' hj => by obtain ⟨_, _, _, _, _, _, _, _, _, _, h, _⟩ := hj; exact h) (fun i kv σ B2 hkv hi => by
      obtain ⟨o7, o11, o12, o13, o14, o15, o16, o17, rfl, exB, hB3, hB10⟩ := hi
      obtain ⟨e, he, rfl⟩ := enc_get hkv
      have hD := List.mem_of_getElem? he
      have hil : i < D.length := (List.getElem?_eq_some_iff.mp he).1
      obtain ⟨b1, b2, b3, b4, b5, b6⟩ := dk.key e hD
      obtain ⟨⟨r, i1, i2⟩, n1, n2, v1, v2⟩ := nx_get h b1 b2 k0 k1
      obtain ⟨⟨r', j1, j2⟩, _, _, w1, w2⟩ := nx_get h b3 b4 k0 k1
      have l1 : ((D.take i).flatMap (nxt2 bk k)).length ≤ 2 * i := by
        rw [flat2_len _ 2 (nxt2_len bk k), List.length_take]; omega
      have l2 := adds_len (add := padd) ((D.take i).flatMap (nxt2 bk k)) ([] : D2)
      simp only [List.length_nil] at l2
      have g1 : aIx (.ref n3) (kV2 e.1) B2 = some (pairV e.2) := ix2 hB3 dk.nd hD
      have mu : ∀ B, aBin .mul (.int e.2.1) (.int ((nx bk e.1.2.1 k).2 - (nx bk e.1.1 k).2)) B = .ok (.int (e.2.1 * dif2 bk k e.1)) B := fun B => mul_r _ (by omega)
      have g := gr B2 n10 (adds padd [] ((D.take i).flatMap (nxt2 bk k))) e.1 e.2.1 e.2.2 hB10 (adds_nodup _ List.nodup_nil) (size_big (by omega))
      have hB3' := get_set_ne (o := .dT false (encD ek2 pairV (addD padd (adds padd [] ((D.take i).flatMap (nxt2 bk k))) e.1 (e.2.1, e.2.2)))) (n := n10) hB3 (by omega)
      have hB10' := get_set (o := .dT false (encD ek2 pairV (addD padd (adds padd [] ((D.take i).flatMap (nxt2 bk k))) e.1 (e.2.1, e.2.2)))) (get_lt hB10)
      have exB' := exB.set (n := n10) (by omega) (.dT false (encD ek2 pairV (addD padd (adds padd [] ((D.take i).flatMap (nxt2 bk k))) e.1 (e.2.1, e.2.2))))
      generalize hE : B2.set n10 (.dT false (encD ek2 pairV (addD padd (adds padd [] ((D.take i).flatMap (nxt2 bk k))) e.1 (e.2.1, e.2.2)))) = B3 at hB3' hB10' exB' g
      have l3 := addD_len padd (D := adds padd ([] : D2) ((D.take i).flatMap (nxt2 bk k))) (k := e.1) (v := (e.2.1, e.2.2))
      have g' := gr B3 n10 _ (key2 bk k e.1) e.2.1 (e.2.2 + e.2.1 * dif2 bk k e.1) hB10' (addD_nodup _ (adds_nodup _ List.nodup_nil)) (size_big (by omega))
      refine ⟨[some (bookV bk), some w, some m, some (.ref n3), some (.int k), o5, o6, o7, o8, o9, some (.ref n10), some (kV2 e.1), o12, o13, o14, o15, o16, o17], B2, rfl,
        [some (bookV bk), some w, some m, some (.ref n3), some (.int k), o5, o6, some (.int e.1.2.2), o8, o9, some (.ref n10), some (kV2 e.1), some (pairV (nx bk e.1.1 k)), some (pairV (nx bk e.1.2.1 k)), some (.int e.2.1), some (.int e.2.2), some (.int e.1.1), some (.int e.1.2.1)],
        B3.set n10 (.dT false (encD ek2 pairV (addD padd (addD padd (adds padd [] ((D.take i).flatMap (nxt2 bk k))) e.1 (e.2.1, e.2.2)) (key2 bk k e.1) (e.2.1, e.2.2 + e.2.1 * dif2 bk k e.1)))), ?_, _, _, _, _, _, _, _, _, rfl, exB'.set (by omega) _, get_set_ne hB3' (by omega), ?_⟩
      · have t1 : ∀ σ, evTg c (.tup [(.name 14), (.name 15)]) (pairV e.2) σ B2 = .ok ((σ.set 14 (some (.int e.2.1))).set 15 (some (.int e.2.2))) B2 := fun _ => rfl
        have t2 : ∀ σ, evTg c (.tup [(.name 16), (.name 17), (.name 7)]) (kV2 e.1) σ B2 = .ok (((σ.set 16 (some (.int e.1.1))).set 17 (some (.int e.1.2.1))).set 7 (some (.int e.1.2.2))) B2 := fun _ => rfl
        have k2' : AV.tup [.int (nx bk e.1.1 k).1, .int (nx bk e.1.2.1 k).1, .int (e.1.2.2 + 1)] = kV2 (key2 bk k e.1) := rfl
        have z3 : 3 ≤ sizeLine := Nat.le_of_lt (size_big (by omega))
        have zz : e.2 = (e.2.1, e.2.2) := rfl
        simp [lpB] at t1 t2 ⊢
        simp [g1, t1, t2, i1, i2, j1, j2, g, ixp0, ixp1, z3, k2', mu, g']
      · rw [get_set (get_lt hB10'), flat_take _ he, adds_app]; rfl)
  have hlen : (encD ek2 pairV D).length = D.length := by unfold encD; rw [List.length_map]
  rw [hlen, List.take_length] at hA10
  exact ⟨_, _, _, _, _, _, _, _, _, by rw [q1, hσ], ex2.set (by omega) _, get_set_ne hA10 (by omega)⟩
theorem pair_ev' (c : Cfg) (gr : grownIs c) (pf : prefIs c bk kinds states) (A : AH) (h : BkOk bk kinds states lo hi) (hb : -1000000 ≤ lo ∧ hi ≤ 1000000) {l : List Int} {i : Nat} {k : Int} (hl : inB l kinds) (hz : l.length ≤ 16) (hk : l[i]? = some k) :
    ∃ A' n D, (evSs c bPairC [some (bookV bk), some (rowI l), some (.int i), none, none, none, none, none, none, none, none, none, none, none, none, none, none, none] A).fin = .ok (.ref n) A' ∧ Ex A A' ∧ A.length ≤ n ∧ A'[n]? = some (.dT false (encD ek2 pairV D)) ∧
      DK2 D states (l.length - 1) ∧ Rep2 D (pairL bk (pair0 bk (l.take i) k) (l.drop (i + 1))) := by
  have hi : i < l.length := (List.getElem?_eq_some_iff.mp hk).1
  have hin := hl k (List.mem_of_getElem? hk)
  have ll : (l.take i).length = i := by rw [List.length_take]; omega
  obtain ⟨A1, n5, D1', e1, ex1, hn5, h5, dk1, rep1⟩ := pf (A ++ [.dT false []]) (l.take i) (hl.take i) (by omega)
  rw [ll] at dk1
  have h3 : A1[A.length]? = some (.dT false []) := ex1.get (get_new _ _)
  have exA : Ex A A1 := ((Ex.refl A).app _).trans ex1
  obtain ⟨B, p6, p7, p8, p9, eA, exB, hB⟩ := loopA c gr A A1 h hb hin.1 hin.2 dk1 (by omega) (rowI l) (n3 := A.length) (n5 := n5) none none none none [none, none, none, none, none, none, none, none] exA (Nat.le_refl _) (by simp at hn5; omega) h3 h5 (.int i)
  -- the second loop
  have hdl : (l.drop (i + 1)).length = l.length - (i + 1) := by rw [List.length_drop]
  have loop : ∃ σ' A', evS c (.for_ (.name 4) (.v (.sl (.var 1) (some (.bin .add (.var 2) (.lit (.int 1)))) none)) [.asg (.name 10) .dnew, .for_ (.name 11) (.v (.var 3)) lpB, .asg (.name 3) (.var 10)])
      [some (bookV bk), some (rowI l), some (.int i), some (.ref A.length), some (.int k), some (.ref n5), p6, p7, p8, p9, none, none, none, none, none, none, none, none] B = .next σ' A' ∧
      ∃ n3 D o4 o5 o6 o7 o8 o9 o10 o11 o12 o13 o14 o15 o16 o17, σ' = [some (bookV bk), some (rowI l), some (.int i), some (.ref n3), o4, o5, o6, o7, o8, o9, o10, o11, o12, o13, o14, o15, o16, o17] ∧ Ex A A' ∧ A.length ≤ n3 ∧ A'[n3]? = some (.dT false (encD ek2 pairV D)) ∧
        DK2 D states (i + ((l.drop (i + 1)).map AV.int).length) ∧ Rep2 D (pairL bk (pair0 bk (l.take i) k) ((l.drop (i + 1)).take ((l.drop (i + 1)).map AV.int).length)) := by
    have sl : evE c (.sl (.var 1) (some (.bin .add (.var 2) (.lit (.int 1)))) none) [some (bookV bk), some (rowI l), some (.int i), some (.ref A.length), some (.int k), some (.ref n5), p6, p7, p8, p9, none, none, none, none, none, none, none, none] B = .ok (.tup ((l.drop (i + 1)).map .int)) B := by
      have := rowI_from l (i + 1) B
      have e : (((i + 1 : Nat) : Int)) = (i : Int) + 1 := by omega
      rw [e] at this
      simp [this]; simp [rowI]
    rw [forV sl]
    refine for_end (fun j σ A' => ∃ n3 D o4 o5 o6 o7 o8 o9 o10 o11 o12 o13 o14 o15 o16 o17, σ = [some (bookV bk), some (rowI l), some (.int i), some (.ref n3), o4, o5, o6, o7, o8, o9, o10, o11, o12, o13, o14, o15, o16, o17] ∧ Ex A A' ∧ A.length ≤ n3 ∧ A'[n3]? = some (.dT false (encD ek2 pairV D)) ∧
        DK2 D states (i + j) ∧ Rep2 D (pairL bk (pair0 bk (l.take i) k) ((l.drop (i + 1)).take j)))
      ⟨A.length, _, _, _, _, _, _, _, _, _, _, _, _, _, _, _, rfl, exB, Nat.le_refl _, hB, dk0_next h hin.1 hin.2 dk1, rep0_next bk k rep1⟩ (fun _ _ _ _ _ => rfl) (fun j x σ A2 hx hj => ?_)
    obtain ⟨n3, D, o4, o5, o6, o7, o8, o9, o10, o11, o12, o13, o14, o15, o16, o17, rfl, ex2, hn3, hA2, dk, rep⟩ := hj
    obtain ⟨y, hy, rfl⟩ := row_get hx
    have hjl : j < (l.drop (i + 1)).length := (List.getElem?_eq_some_iff.mp hy).1
    have hyin := hl y (List.mem_of_mem_drop (List.mem_of_getElem? hy))
    obtain ⟨B2, r7, r11, r12, r13, r14, r15, r16, r17, eB, exB2, hB2⟩ := loopB c gr A (A2 ++ [.dT false []]) h hb hyin.1 hyin.2 dk (by omega) (rowI l) (.int i) (n3 := n3) (n10 := A2.length) o5 o6 o7 o8 o9 o11 o12 o13 o14 o15 o16 o17 (ex2.app _) hn3 (get_lt hA2) (get_app hA2 _) (get_new _ _)
    refine ⟨_, _, rfl, [some (bookV bk), some (rowI l), some (.int i), some (.ref A2.length), some (.int y), o5, o6, r7, o8, o9, some (.ref A2.length), r11, r12, r13, r14, r15, r16, r17], B2, ?_, A2.length, _, _, _, _, _, _, _, _, _, _, _, _, _, _, _, rfl, exB2, ex2.len, hB2, dk2_next h hyin.1 hyin.2 dk, ?_⟩
    · simp [eB]
    · rw [take_succ' hy, pairL_snoc]; exact rep2_next bk y rep
  obtain ⟨σ', A', e2, n3, D, o4, o5, o6, o7, o8, o9, o10, o11, o12, o13, o14, o15, o16, o17, rfl, ex2, hn3, hA2, dk, rep⟩ := loop
  rw [List.length_map] at dk rep
  rw [List.take_length] at rep
  rw [hdl, show i + (l.length - (i + 1)) = l.length - 1 by omega] at dk
  refine ⟨A', n3, D, ?_, ex2, hn3, hA2, dk, rep⟩
  simp only [List.cons_append, List.nil_append] at eA
  simp [bPairC, rowI_at hk, rowI_to, e1, eA, e2]
end
end Ev


set_option linter.all false
set_option maxRecDepth 100000
set_option maxHeartbeats 8000000
namespace Ev
open PySem L2 Sh

/-! ### sums by sizes, order prices -/
/-- sums by sizes, from the pairs -/
def sumsF (S : List Int) (L : List (Int × Int)) : List Int := L.foldl (fun S e => S.set e.1.toNat (S.getD e.1.toNat 0 + e.2)) S
theorem sumsF_snoc (S : List Int) (L : List (Int × Int)) (e : Int × Int) : sumsF S (L ++ [e]) = (sumsF S L).set e.1.toNat ((sumsF S L).getD e.1.toNat 0 + e.2) := by unfold sumsF; rw [List.foldl_append]; rfl
theorem sumsF_len : ∀ (L : List (Int × Int)) (S : List Int), (sumsF S L).length = S.length
  | [], _ => rfl
  | e :: r, S => by
    show (sumsF (S.set _ _) r).length = _
    rw [sumsF_len r, List.length_set]
theorem sm_set (S : List Int) (w : Nat → Int) {z : Nat} (hz : z < S.length) (x : Int) : sm S.length (fun i => (S.set z (S.getD z 0 + x)).getD i 0 * w i) = sm S.length (fun i => S.getD i 0 * w i) + x * w z := by
  have : x * w z = sm S.length fun i => if i = z then x * w z else 0 := by rw [sm_one (a := z) hz (fun i _ h => if_neg h), if_pos rfl]
  rw [this, ← sm_plus]
  refine sm_congr fun i hi => ?_
  by_cases e : i = z
  · subst e
    rw [if_pos rfl, ← Int.add_mul]
    congr 1
    rw [List.getD_eq_getElem?_getD (i := i), List.getElem?_set_self hz]; rfl
  · rw [if_neg e, Int.add_zero]
    congr 1
    rw [List.getD_eq_getElem?_getD, List.getElem?_set_ne (Ne.symm e), ← List.getD_eq_getElem?_getD]
theorem sumsF_sum (w : Nat → Int) : ∀ (L : List (Int × Int)) (S : List Int), (∀ e ∈ L, 0 ≤ e.1 ∧ e.1 < S.length) → sm S.length (fun i => (sumsF S L).getD i 0 * w i) = sm S.length (fun i => S.getD i 0 * w i) + (L.map fun e => e.2 * w e.1.toNat).sum
  | [], S, _ => by show _ = _ + 0; rw [Int.add_zero]; rfl
  | e :: r, S, h => by
    have he := h e (by simp)
    show sm S.length (fun i => (sumsF (S.set e.1.toNat (S.getD e.1.toNat 0 + e.2)) r).getD i 0 * w i) = _
    have ih := sumsF_sum w r (S.set e.1.toNat (S.getD e.1.toNat 0 + e.2)) (fun x hx => by rw [List.length_set]; exact h x (List.mem_cons_of_mem _ hx))
    rw [List.length_set] at ih
    rw [ih, sm_set S w (by omega), List.map_cons, List.sum_cons, Int.add_assoc]
theorem getD_rep0 (n i : Nat) : (List.replicate n (0 : Int)).getD i 0 = 0 := by
  rw [List.getD_eq_getElem?_getD, List.getElem?_replicate]
  split <;> rfl
def bFact : List S := [.asg (.name 1) (.lit (.int 1)),
    .for_ (.name 2) (.range2 (.lit (.int 2)) (.bin .add (.var 0) (.lit (.int 1)))) [.asg (.name 1) (.bin .mul (.var 1) (.var 2))],
    .ret (.var 1)]
def bOPrice : List S := [.asg (.name 3) (.bif .len [(.var 1)]),
    .asg (.name 4) (.lit (.int 0)),
    .asg (.name 5) (.call "sums_by_size" [(.var 0), (.var 1), (.var 2)] []),
    .for_ (.name 6) (.range1 (.var 3)) [.aug 4 .add (.bin .mul (.bin .mul (.ix (.var 5) (.var 6)) (.call "factorial_of" [(.var 6)] [])) (.call "factorial_of" [(.bin .sub (.bin .sub (.var 3) (.lit (.int 1))) (.var 6))] []))],
    .ret (.call "amount" [(.var 4), (.call "factorial_of" [(.var 3)] [])] [])]
def bOPrices : List S := [.ret (.lf .tup (.comp [2] (.range1 (.bif .len [(.var 1)])) (.name 2) (.lit (.bl true)) (.call "order_price" [(.var 0), (.var 1), (.var 2)] [])))]
def factIs (c : Cfg) : Prop := ∀ A (n : Nat), n ≤ 16 → c.fn "factorial_of" [.int n] A = .ok (.int (fac n)) A
theorem fac_big : (List.range 17).all (fun n => decide (facN n < 2 ^ 60)) = true := by decide +kernel
theorem fac_lt {n : Nat} (h : n ≤ 16) : 0 < fac n ∧ fac n < 2 ^ 60 := by
  have := of_decide_eq_true (List.all_eq_true.mp fac_big n (List.mem_range.mpr (by omega)))
  have h2 := fac_N n
  exact ⟨fac_pos n, by omega⟩
theorem fact_ev (c : Cfg) (A : AH) {n : Nat} (hn : n ≤ 16) : (evSs c bFact [some (.int n), none, none] A).fin = .ok (.int (fac n)) A := by
  have loop : ∃ σ' A', evS c (.for_ (.name 2) (.range2 (.lit (.int 2)) (.bin .add (.var 0) (.lit (.int 1)))) [.asg (.name 1) (.bin .mul (.var 1) (.var 2))]) [some (.int n), some (.int 1), none] A = .next σ' A' ∧ A' = A ∧ ∃ o2, σ' = [some (.int n), some (.int (fac (((List.range ((n : Int) + 1 - 2).toNat).map fun (k : Nat) => AV.int (2 + k)).length + 1))), o2] := by
    rw [forN2 (i := 2) (j := (n : Int) + 1) (by simp) (by simp) (by omega)]
    refine for_end (fun i σ A' => A' = A ∧ ∃ o2, σ = [some (.int n), some (.int (fac (i + 1))), o2]) ⟨rfl, none, rfl⟩ (fun _ _ _ _ _ => rfl) (fun i x σ A' hx ⟨e, o2, e2⟩ => ?_)
    subst e e2
    rw [List.getElem?_map] at hx
    obtain ⟨j, h1, rfl⟩ := Option.map_eq_some_iff.mp hx
    obtain ⟨h4, h5⟩ := List.getElem?_eq_some_iff.mp h1
    rw [List.getElem_range] at h5
    rw [List.length_range] at h4
    subst h5
    refine ⟨_, _, rfl, [some (.int n), some (.int (fac (i + 2))), some (.int (2 + i))], A', ?_, rfl, _, rfl⟩
    have m : aBin .mul (.int (fac (i + 1))) (.int (2 + (i : Int))) A' = .ok (.int (fac (i + 2))) A' := by
      rw [mul_r _ (by omega)]
      have : fac (i + 2) = fac (i + 1) * (2 + (i : Int)) := by
        show ((i + 1 + 1 : Nat) : Int) * fac (i + 1) = _
        rw [Int.mul_comm]; congr 1; omega
      rw [this]
    simp [m]
  obtain ⟨σ', A', h1, rfl, o2, rfl⟩ := loop
  have e : fac (((List.range ((n : Int) + 1 - 2).toNat).map fun (k : Nat) => AV.int (2 + k)).length + 1) = fac n := by
    rw [List.length_map, List.length_range]
    cases n with
    | zero => rfl
    | succ n =>
      have : (((n + 1 : Nat) : Int) + 1 - 2).toNat + 1 = n + 1 := by omega
      rw [this]
  rw [e] at h1
  simp [bFact, h1]
theorem mul_lst {A : AH} {n : Nat} {xs : List AV} {k : Nat} (h : A[n]? = some (.lst xs)) (hz : xs.length * k ≤ sizeLine) (hk : k < 2 ^ 60) : aBin .mul (.ref n) (.int (k : Int)) A = .ok (.ref A.length) (A ++ [.lst (List.replicate k xs).flatten]) := by
  have : -(2 ^ 63) ≤ (k : Int) ∧ (k : Int) < 2 ^ 63 ∧ xs.length * (k : Int).toNat ≤ sizeLine := by
    refine ⟨by omega, by omega, ?_⟩
    rw [Int.toNat_natCast]; exact hz
  rw [Int.toNat_natCast] at this
  simp only [aBin, h, Int.toNat_natCast, if_pos this]
theorem zeros (k : Nat) : (List.replicate k [AV.int 0]).flatten = (List.replicate k (0 : Int)).map AV.int := by
  induction k with
  | zero => rfl
  | succ k ih => rw [List.replicate_succ, List.flatten_cons, ih, List.replicate_succ]; rfl
theorem ix_ints {A : AH} {n i : Nat} {S : List Int} (h : A[n]? = some (.lst (S.map .int))) (hi : i < S.length) : aIx (.ref n) (.int (i : Int)) A = some (.int (S.getD i 0)) := by
  rw [ix_ref h]
  refine atI_nat ?_
  rw [List.getElem?_map, List.getD_eq_getElem?_getD, List.getElem?_eq_getElem hi]; rfl
theorem ixN_nat {n i : Nat} (h : i < n) : ixN n (i : Int) = some i := by
  unfold ixN
  rw [if_pos (by omega), if_pos (by omega)]; simp
theorem set_ints {A : AH} {n i : Nat} {S : List Int} {x : Int} (h : A[n]? = some (.lst (S.map .int))) (hi : i < S.length) : aSet (.ref n) (.int (i : Int)) (.int x) A = some (A.set n (.lst ((S.set i x).map .int))) := by
  have : ixN (S.map AV.int).length (i : Int) = some i := ixN_nat (by rw [List.length_map]; exact hi)
  simp only [aSet, h, this, List.map_set]
section
variable {bk : List (List (Int × Int))} {kinds states : Nat} {lo hi : Int}
def sumsIs (c : Cfg) (bk : List (List (Int × Int))) (kinds : Nat) : Prop := ∀ A (l : List Int) (i : Nat), inB l kinds → l.length ≤ 16 → i < l.length → ∃ (A' : AH) (n : Nat) (S : List Int), c.fn "sums_by_size" [bookV bk, rowI l, .int i] A = .ok (.ref n) A' ∧ Ex A A' ∧ A'[n]? = some (.lst (S.map .int)) ∧ S.length = l.length ∧
  ∀ w : Nat → Int, sm l.length (fun z => S.getD z 0 * w z) = mar l.length w (fun m => (G bk l m).2) i
theorem sums_ev (c : Cfg) (pr : pairIs c bk kinds states) (A : AH) {l : List Int} {i : Nat} (hl : inB l kinds) (hz : l.length ≤ 16) (hi : i < l.length) : ∃ (A' : AH) (n : Nat) (S : List Int), (evSs c bSums [some (bookV bk), some (rowI l), some (.int i), none, none, none] A).fin = .ok (.ref n) A' ∧ Ex A A' ∧ A'[n]? = some (.lst (S.map .int)) ∧ S.length = l.length ∧
    ∀ w : Nat → Int, sm l.length (fun z => S.getD z 0 * w z) = mar l.length w (fun m => (G bk l m).2) i := by
  have hk := List.getElem?_eq_getElem hi
  obtain ⟨A1, n4, D, e1, ex1, hn4, h4, dk, rep⟩ := pr (A ++ [.lst [.int 0]] ++ [.lst ((List.replicate l.length (0 : Int)).map .int)]) l i l[i] hl hz hk
  have h3 : A1[A.length + 1]? = some (.lst ((List.replicate l.length (0 : Int)).map .int)) := ex1.get (by
    have := get_new (A ++ [.lst [.int 0]]) (.lst ((List.replicate l.length (0 : Int)).map .int))
    rw [List.length_append, List.length_singleton] at this; exact this)
  have exA : Ex A A1 := (((Ex.refl A).app _).app _).trans ex1
  simp only [List.length_append, List.length_singleton] at hn4
  have dl : D.length ≤ 262144 := Nat.le_trans dk.len (pow20 (by omega))
  obtain ⟨σ2, A2, q1, o5', hσ, ex2, hA4, hA3⟩ := forK_end (c := c) (t := .name 5) (e := .var 4) (b := [.augs (.var 3) (.ix (.var 5) (.lit (.int 2))) .add (.ix (.ix (.var 4) (.var 5)) (.lit (.int 1)))])
    (σ := [some (bookV bk), some (rowI l), some (.int i), some (.ref (A.length + 1)), some (.ref n4), none]) (A := A1) (n := n4) (kvs := encD ek2 pairV D) (A' := A1) rfl h4
    (fun j σ A' => ∃ o5, σ = [some (bookV bk), some (rowI l), some (.int i), some (.ref (A.length + 1)), some (.ref n4), o5] ∧ Ex A A' ∧ A'[n4]? = some (.dT true (encD ek2 pairV D)) ∧ A'[A.length + 1]? = some (.lst ((sumsF (List.replicate l.length 0) ((D.take j).map fun e => (e.1.2.2, e.2.2))).map .int)))
    ⟨none, rfl, exA.set (by omega) _, get_set (get_lt h4), get_set_ne h3 (by omega)⟩ (fun j σ A' hj => by obtain ⟨_, _, _, h, _⟩ := hj; exact h) (fun j kv σ B hkv hj => by
      obtain ⟨o5, rfl, exB, hB4, hB3⟩ := hj
      obtain ⟨e, he, rfl⟩ := enc_get hkv
      have hD := List.mem_of_getElem? he
      obtain ⟨b1, b2, b3, b4, b5, b6⟩ := dk.key e hD
      obtain ⟨z, hz'⟩ : ∃ z : Nat, e.1.2.2 = z := ⟨e.1.2.2.toNat, by omega⟩
      have hl' : (sumsF (List.replicate l.length 0) ((D.take j).map fun e => (e.1.2.2, e.2.2))).length = l.length := by rw [sumsF_len, List.length_replicate]
      have zl : z < (sumsF (List.replicate l.length 0) ((D.take j).map fun e => (e.1.2.2, e.2.2))).length := by rw [hl']; omega
      have g0 : aIx (.ref n4) (kV2 e.1) B = some (pairV e.2) := ix2 hB4 dk.nd hD
      have g1 : aIx (kV2 e.1) (.int 2) B = some (.int (z : Int)) := by
        show atI [AV.int e.1.1, AV.int e.1.2.1, AV.int e.1.2.2] 2 = _
        rw [hz']; exact atI_nat (j := 2) rfl
      have g2 := ix_ints hB3 zl
      have g3 := set_ints (x := (sumsF (List.replicate l.length 0) ((D.take j).map fun e => (e.1.2.2, e.2.2))).getD z 0 + e.2.2) hB3 zl
      refine ⟨[some (bookV bk), some (rowI l), some (.int i), some (.ref (A.length + 1)), some (.ref n4), some (kV2 e.1)], B, rfl, [some (bookV bk), some (rowI l), some (.int i), some (.ref (A.length + 1)), some (.ref n4), some (kV2 e.1)], _, ?_, _, rfl, exB.set (n := A.length + 1) (by omega) (.lst (((sumsF (List.replicate l.length 0) ((D.take j).map fun e => (e.1.2.2, e.2.2))).set z ((sumsF (List.replicate l.length 0) ((D.take j).map fun e => (e.1.2.2, e.2.2))).getD z 0 + e.2.2)).map .int)), get_set_ne hB4 (by omega), ?_⟩
      · simp only [evSs_cons, evS_augs, evE_var, List.getElem?_cons_zero, List.getElem?_cons_succ, out_ok, kAugs_eq, evE_ix, bind_ok, kIx_eq, evE_lit, kIx2_eq, g1, kAugs2_eq, mthTy_ref hB3, if_true, g2, g0, ixp1, kAugs3_eq, augadd_int, kAugs4_eq, g3, seq_next, kSs_eq, evSs_nil]
      · rw [get_set (get_lt hB3), take_get he, List.map_append, List.map_cons, List.map_nil, sumsF_snoc]
        simp only [hz', Int.toNat_natCast])
  have hlen : (encD ek2 pairV D).length = D.length := by unfold encD; rw [List.length_map]
  rw [hlen, List.take_length] at hA3
  refine ⟨A2.set n4 (.dT false (encD ek2 pairV D)), A.length + 1, _, ?_, ex2.set (n := n4) (by omega) _, get_set_ne hA3 (by omega), by rw [sumsF_len, List.length_replicate], fun w => ?_⟩
  rotate_left
  · have s := sumsF_sum w (D.map fun e => (e.1.2.2, e.2.2)) (List.replicate l.length 0) (fun e he => by
      obtain ⟨x, hx, rfl⟩ := List.mem_map.mp he
      obtain ⟨b1, b2, b3, b4, b5, b6⟩ := dk.key x hx
      rw [List.length_replicate]
      exact ⟨b5, by show x.1.2.2 < _; omega⟩)
    rw [List.length_replicate] at s
    rw [s]
    have z0 : sm l.length (fun i => (List.replicate l.length (0 : Int)).getD i 0 * w i) = 0 :=
      (sm_congr fun i _ => by rw [getD_rep0, Int.zero_mul]).trans (sm_zero l.length)
    rw [z0, Int.zero_add, List.map_map, ← pairs_mar bk hk w]
    have r := rep (fun _ => 0) (fun p => w p.2.2.toNat)
    simp only [Int.zero_mul, Int.zero_add] at r
    rw [← r]
    congr 1
    exact List.map_congr_left fun e _ => Int.mul_comm _ _
  · have f0 := get_new A (.lst [.int 0])
    have m := mul_lst (k := l.length) f0 (by simp; exact Nat.le_of_lt (size_big (by omega))) (by omega)
    rw [zeros, List.length_append, List.length_singleton] at m
    have z1 : 1 ≤ sizeLine := Nat.le_of_lt (size_big (by omega))
    have ln : aBif .len [rowI l] (A ++ [.lst [.int 0]]) = .ok (.int (l.length : Int)) (A ++ [.lst [.int 0]]) := by
      show Res.ok (AV.int ((l.map AV.int).length : Nat)) _ = _
      rw [List.length_map]
    subst hσ
    generalize A ++ [AO.lst [AV.int 0]] ++ [AO.lst ((List.replicate l.length (0 : Int)).map AV.int)] = B0 at e1 m
    simp [bSums, z1, ln, m, e1, q1]
def priceIs (c : Cfg) (bk : List (List (Int × Int))) (kinds : Nat) : Prop := ∀ A (l : List Int) (i : Nat), inB l kinds → l.length ≤ 16 → i < l.length → ∃ A', c.fn "order_price" [bookV bk, rowI l, .int i] A = .ok (pairV (red (mar l.length (shw l.length) (fun m => (G bk l m).2) i) (fac l.length))) A' ∧ Ex A A'
theorem len_row (l : List Int) (A : AH) : aBif .len [rowI l] A = .ok (.int (l.length : Int)) A := by
  show Res.ok (AV.int ((l.map AV.int).length : Nat)) _ = _
  rw [List.length_map]
theorem price_ev (c : Cfg) (su : sumsIs c bk kinds) (fa : factIs c) (am : ∀ A (n d : Int), 0 < d → d < 2 ^ 64 → c.fn "amount" [.int n, .int d] A = .ok (pairV (red n d)) A) (A : AH) {l : List Int} {i : Nat} (hl : inB l kinds) (hz : l.length ≤ 16) (hi : i < l.length) :
    ∃ A', (evSs c bOPrice [some (bookV bk), some (rowI l), some (.int i), none, none, none, none] A).fin = .ok (pairV (red (mar l.length (shw l.length) (fun m => (G bk l m).2) i) (fac l.length))) A' ∧ Ex A A' := by
  obtain ⟨A1, n, S, e1, ex1, hS, hSl, sum⟩ := su A l i hl hz hi
  have loop : ∃ σ' A', evS c (.for_ (.name 6) (.range1 (.var 3)) [.aug 4 .add (.bin .mul (.bin .mul (.ix (.var 5) (.var 6)) (.call "factorial_of" [(.var 6)] [])) (.call "factorial_of" [(.bin .sub (.bin .sub (.var 3) (.lit (.int 1))) (.var 6))] []))])
      [some (bookV bk), some (rowI l), some (.int i), some (.int (l.length : Int)), some (.int 0), some (.ref n), none] A1 = .next σ' A' ∧ A' = A1 ∧ ∃ o6, σ' = [some (bookV bk), some (rowI l), some (.int i), some (.int (l.length : Int)), some (.int (sm ((List.range l.length).map fun (k : Nat) => AV.int k).length fun z => S.getD z 0 * shw l.length z)), some (.ref n), o6] := by
    rw [forN (n := l.length) (by simp) (by omega)]
    refine for_end (fun j σ A' => A' = A1 ∧ ∃ o6, σ = [some (bookV bk), some (rowI l), some (.int i), some (.int (l.length : Int)), some (.int (sm j fun z => S.getD z 0 * shw l.length z)), some (.ref n), o6]) ⟨rfl, _, rfl⟩ (fun _ _ _ _ _ => rfl) (fun j x σ A' hx ⟨e, o6, e2⟩ => ?_)
    subst e e2
    obtain ⟨hj, rfl⟩ := range_get hx
    refine ⟨_, _, rfl, [some (bookV bk), some (rowI l), some (.int i), some (.int (l.length : Int)), some (.int (sm (j + 1) fun z => S.getD z 0 * shw l.length z)), some (.ref n), some (.int j)], A', ?_, rfl, _, rfl⟩
    have g1 := ix_ints hS (i := j) (by omega)
    have f1 := fa A' j (by omega)
    have f2 := fa A' (l.length - 1 - j) (by omega)
    have ee : ((l.length - 1 - j : Nat) : Int) = (l.length : Int) - 1 - j := by omega
    rw [ee] at f2
    have p1 := fac_lt (n := j) (by omega)
    have p2 := fac_lt (n := l.length - 1 - j) (by omega)
    have m1 : aBin .mul (.int (S.getD j 0)) (.int (fac j)) A' = _ := mul_r _ (by omega)
    have m2 : aBin .mul (.int (S.getD j 0 * fac j)) (.int (fac (l.length - 1 - j))) A' = _ := mul_r _ (by omega)
    have e3 : (sm (j + 1) fun z => S.getD z 0 * shw l.length z) = (sm j fun z => S.getD z 0 * shw l.length z) + S.getD j 0 * fac j * fac (l.length - 1 - j) := by
      show _ + S.getD j 0 * (fac j * fac (l.length - 1 - j)) = _
      rw [Int.mul_assoc]
    rw [e3]
    simp only [evSs_cons, evS_aug, evE_bin, evE_ix, evE_var, List.getElem?_cons_zero, List.getElem?_cons_succ, List.set_cons_zero, List.set_cons_succ, bind_ok, out_ok, kIx_eq, kIx2_eq, g1, kBin_eq, evE_call, evEs_cons, evEs_nil, kCons_eq, kCons2_eq, kCall_eq, List.append_nil, f1, m1, evE_lit, sub_int, f2, m2, kAug_eq, augadd_int, kAug2_eq, seq_next, kSs_eq, evSs_nil]
  obtain ⟨σ', A', h1, rfl, o6, rfl⟩ := loop
  rw [List.length_map, List.length_range, sum] at h1
  have f3 := fa A' l.length hz
  have p3 := fac_lt hz
  have a1 := am A' (mar l.length (shw l.length) (fun m => (G bk l m).2) i) (fac l.length) p3.1 (by omega)
  refine ⟨A', ?_, ex1⟩
  simp [bOPrice, len_row, e1, h1, f3, a1]
/-- the due prices -/
def dueL (bk : List (List (Int × Int))) (l : List Int) : List (Int × Int) := (List.range l.length).map fun i => red (mar l.length (shw l.length) (fun m => (G bk l m).2) i) (fac l.length)
theorem prices_ev (c : Cfg) (pr : priceIs c bk kinds) (A : AH) {l : List Int} (hl : inB l kinds) (hz : l.length ≤ 16) : ∃ A', (evSs c bOPrices [some (bookV bk), some (rowI l), none] A).fin = .ok (.tup ((dueL bk l).map pairV)) A' ∧ Ex A A' := by
  have lp : ∃ acc A', evL c (.comp [2] (.range1 (.bif .len [(.var 1)])) (.name 2) (.lit (.bl true)) (.call "order_price" [(.var 0), (.var 1), (.var 2)] [])) [some (bookV bk), some (rowI l), none] A = .ok acc A' ∧ Ex A A' ∧
      acc = ((List.range ((List.range l.length).map fun (k : Nat) => AV.int k).length).map fun i => pairV (red (mar l.length (shw l.length) (fun m => (G bk l m).2) i) (fac l.length))) := by
    rw [compN (n := l.length) (A' := A) (by simp [len_row]) (by omega)]
    refine comp_run (fun i acc A' => Ex A A' ∧ acc = (List.range i).map fun i => pairV (red (mar l.length (shw l.length) (fun m => (G bk l m).2) i) (fac l.length))) ⟨Ex.refl A, rfl⟩ (by simp; exact Nat.le_of_lt (size_big (by omega))) (fun i acc A' _ ⟨_, e⟩ => ⟨rfl, by rw [e]; simp⟩) (fun i x acc A' hx ⟨ex, e⟩ => ?_)
    obtain ⟨hi, rfl⟩ := range_get hx
    obtain ⟨A2, e2, ex2⟩ := pr A' l i hl hz hi
    refine ⟨_, _, true, A', rfl, rfl, ?_⟩
    rw [if_pos rfl]
    refine ⟨_, A2, by simp [wipeS, e2]; rfl, ex.trans ex2, ?_⟩
    rw [e, List.range_succ, List.map_append]; rfl
  obtain ⟨acc, A', h1, ex, rfl⟩ := lp
  rw [List.length_map, List.length_range] at h1
  refine ⟨A', ?_, ex⟩
  simp [bOPrices, h1, aLF, dueL]
end
end Ev


set_option linter.all false
set_option maxRecDepth 100000
set_option maxHeartbeats 8000000
namespace Ev
open PySem L2 Sh

/-! ### the law's costs of groups -/
def bGCosts : List S := [.asg (.name 2) (.new (.disp [(.lit (.int 0))])),
    .asg (.name 3) (.new (.disp [(.lit (.int 0))])),
    .for_ (.name 4) (.v (.var 1)) [.asg (.name 5) (.new (.comp [6] (.v (.var 2)) (.name 6) (.lit (.bl true)) (.ix (.ix (.var 0) (.var 6)) (.var 4)))),
      .asg (.name 3) (.bin .add (.var 3) (.new (.comp [8, 7] (.zip (.var 3) (.var 5)) (.tup [(.name 8), (.name 7)]) (.lit (.bl true)) (.bin .add (.var 8) (.ix (.var 7) (.lit (.int 1))))))),
      .asg (.name 2) (.bin .add (.var 2) (.new (.comp [7] (.v (.var 5)) (.name 7) (.lit (.bl true)) (.ix (.var 7) (.lit (.int 0))))))],
    .ret (.var 3)]
theorem add_lst {A : AH} {n k : Nat} {xs ys : List AV} (h : A[n]? = some (.lst xs)) (h2 : A[k]? = some (.lst ys)) (hz : xs.length + ys.length ≤ sizeLine) : aBin .add (.ref n) (.ref k) A = .ok (.ref A.length) (A ++ [.lst (xs ++ ys)]) := by
  simp only [aBin, h, h2, if_pos hz]
theorem compMapI {c : Cfg} {own : List Nat} {t : T} {elt : E} {σ : Sl} {A : AH} {n : Nat} {e : E} {α : Type} {L : List α} {g : α → AV} (f : α → AV) (h : evE c e σ A = .ok (.ref n) A) (h2 : A[n]? = some (.lst (L.map g))) (hz : L.length ≤ sizeLine)
    (hs : ∀ x ∈ L, ∃ σ2, evTg c t (g x) (wipeS σ own) A = .ok σ2 A ∧ evE c elt σ2 A = .ok (f x) A) : evL c (.comp own (.v e) t (.lit (.bl true)) elt) σ A = .ok (L.map f) A := by
  rw [compO h h2]
  obtain ⟨acc, A', h1, rfl, rfl⟩ := comp_run (chk := (Itm.obj n (L.map g)).chk) (tg := fun x A => evTg c t x (wipeS σ own) A) (q := fun σ A => (evE c (.lit (.bl true)) σ A).bind tru) (elt := fun σ A => evE c elt σ A) (xs := L.map g) (A := A) (fun i acc A' => A' = A ∧ acc = (L.take i).map f) ⟨rfl, rfl⟩ (by rw [List.length_map]; exact hz)
    (fun i acc A' _ ⟨e1, e2⟩ => ⟨by rw [e1]; exact chk_obj h2, by rw [e2, List.length_map, List.length_take]; omega⟩) (fun i x acc A' hx ⟨e1, e2⟩ => by
      subst e1
      rw [List.getElem?_map] at hx
      obtain ⟨y, hy, rfl⟩ := Option.map_eq_some_iff.mp hx
      obtain ⟨σ2, q1, q2⟩ := hs y (List.mem_of_getElem? hy)
      refine ⟨σ2, A', true, A', q1, rfl, ?_⟩
      rw [if_pos rfl]
      exact ⟨_, _, q2, rfl, by rw [e2, take_get hy, List.map_append]; rfl⟩)
  rw [h1, List.length_map, List.take_length]
theorem zipW {α : Type} (f g : α → AV) (L : List α) : List.zipWith (fun x y => AV.tup [x, y]) (L.map f) (L.map g) = L.map fun x => .tup [f x, g x] := by
  induction L with
  | nil => rfl
  | cons x r ih => simp only [List.map_cons, List.zipWith_cons_cons, ih]
theorem side_obj {A : AH} {n : Nat} {xs : List AV} (h : A[n]? = some (.lst xs)) : side A (.ref n) = some (.obj n xs, false) := by simp only [side, h]
theorem compZipI {c : Cfg} {own : List Nat} {t : T} {elt : E} {σ : Sl} {A : AH} {n k : Nat} {e e2 : E} {α : Type} {L : List α} {g g2 : α → AV} (f : α → AV) (h : evE c e σ A = .ok (.ref n) A) (h' : evE c e2 σ A = .ok (.ref k) A) (h2 : A[n]? = some (.lst (L.map g))) (h3 : A[k]? = some (.lst (L.map g2))) (hz : L.length ≤ sizeLine)
    (hs : ∀ x ∈ L, ∃ σ2, evTg c t (.tup [g x, g2 x]) (wipeS σ own) A = .ok σ2 A ∧ evE c elt σ2 A = .ok (f x) A) : evL c (.comp own (.zip e e2) t (.lit (.bl true)) elt) σ A = .ok (L.map f) A := by
  rw [compZ h h' (side_obj h2) (side_obj h3)]
  have ck : (Itm.two (.obj n (L.map g)) (.obj k (L.map g2))).chk A = true := by
    show ((Itm.obj n (L.map g)).chk A && (Itm.obj k (L.map g2)).chk A) = true
    rw [chk_obj h2, chk_obj h3]; rfl
  rw [items_obj, items_obj, zipW]
  obtain ⟨acc, A', h1, rfl, rfl⟩ := comp_run (chk := (Itm.two (.obj n (L.map g)) (.obj k (L.map g2))).chk) (tg := fun x A => evTg c t x (wipeS σ own) A) (q := fun σ A => (evE c (.lit (.bl true)) σ A).bind tru) (elt := fun σ A => evE c elt σ A) (xs := L.map fun x => AV.tup [g x, g2 x]) (A := A) (fun i acc A' => A' = A ∧ acc = (L.take i).map f) ⟨rfl, rfl⟩ (by rw [List.length_map]; exact hz)
    (fun i acc A' _ ⟨e1, e2⟩ => ⟨by rw [e1]; exact ck, by rw [e2, List.length_map, List.length_take]; omega⟩) (fun i x acc A' hx ⟨e1, e2⟩ => by
      subst e1
      rw [List.getElem?_map] at hx
      obtain ⟨y, hy, rfl⟩ := Option.map_eq_some_iff.mp hx
      obtain ⟨σ2, q1, q2⟩ := hs y (List.mem_of_getElem? hy)
      refine ⟨σ2, A', true, A', q1, rfl, ?_⟩
      rw [if_pos rfl]
      exact ⟨_, _, q2, rfl, by rw [e2, take_get hy, List.map_append]; rfl⟩)
  rw [h1, List.length_map, List.take_length]
section
variable {bk : List (List (Int × Int))} {kinds states : Nat} {lo hi : Int}
theorem grp_state (h : BkOk bk kinds states lo hi) (hs : 0 < states) : ∀ l : List Int, inB l kinds → ∀ p ∈ grpL bk l, 0 ≤ p.1 ∧ p.1 < states := by
  refine snocInd (fun _ p hp => ?_) fun l k ih hl p hp => ?_
  · rw [List.mem_singleton.mp hp]; exact ⟨Int.le_refl _, by show (0 : Int) < _; omega⟩
  · have hl' : inB l kinds := fun x hx => hl x (List.mem_append_left _ hx)
    rw [grpL_snoc] at hp
    rcases List.mem_append.mp hp with hp | hp
    · exact ih hl' p hp
    · obtain ⟨q, hq, rfl⟩ := List.mem_map.mp hp
      obtain ⟨a, b⟩ := ih hl' q hq
      have hk := hl k (by simp)
      obtain ⟨_, n1, n2, _⟩ := nx_get h a b hk.1 hk.2
      exact ⟨n1, n2⟩
def stV (p : Int × Int) : AV := .int p.1
def coV (p : Int × Int) : AV := .int p.2
def gcostIs (c : Cfg) (bk : List (List (Int × Int))) (kinds : Nat) : Prop := ∀ A (l : List Int), inB l kinds → l.length ≤ 16 → ∃ A' n, c.fn "_law_group_costs" [bookV bk, rowI l] A = .ok (.ref n) A' ∧ Ex A A' ∧ A'[n]? = some (.lst ((grpL bk l).map coV))
theorem gcost_ev (c : Cfg) (A : AH) (h : BkOk bk kinds states lo hi) (hs : 0 < states) {l : List Int} (hl : inB l kinds) (hz : l.length ≤ 16) : ∃ A' n, (evSs c bGCosts [some (bookV bk), some (rowI l), none, none, none, none, none, none, none] A).fin = .ok (.ref n) A' ∧ Ex A A' ∧ A'[n]? = some (.lst ((grpL bk l).map coV)) := by
  have z1 : 1 ≤ sizeLine := Nat.le_of_lt (size_big (by omega))
  have loop : ∃ σ' A', evS c (.for_ (.name 4) (.v (.var 1)) [.asg (.name 5) (.new (.comp [6] (.v (.var 2)) (.name 6) (.lit (.bl true)) (.ix (.ix (.var 0) (.var 6)) (.var 4)))),
      .asg (.name 3) (.bin .add (.var 3) (.new (.comp [8, 7] (.zip (.var 3) (.var 5)) (.tup [(.name 8), (.name 7)]) (.lit (.bl true)) (.bin .add (.var 8) (.ix (.var 7) (.lit (.int 1))))))),
      .asg (.name 2) (.bin .add (.var 2) (.new (.comp [7] (.v (.var 5)) (.name 7) (.lit (.bl true)) (.ix (.var 7) (.lit (.int 0))))))])
      [some (bookV bk), some (rowI l), some (.ref A.length), some (.ref (A.length + 1)), none, none, none, none, none] (A ++ [.lst [.int 0]] ++ [.lst [.int 0]]) = .next σ' A' ∧
      ∃ n2 n3 o4 o5 o6 o7 o8, σ' = [some (bookV bk), some (rowI l), some (.ref n2), some (.ref n3), o4, o5, o6, o7, o8] ∧ Ex A A' ∧ A'[n2]? = some (.lst ((grpL bk (l.take (l.map AV.int).length)).map stV)) ∧ A'[n3]? = some (.lst ((grpL bk (l.take (l.map AV.int).length)).map coV)) := by
    rw [forV (xs := l.map .int) rfl]
    refine for_end (fun i σ A' => ∃ n2 n3 o4 o5 o6 o7 o8, σ = [some (bookV bk), some (rowI l), some (.ref n2), some (.ref n3), o4, o5, o6, o7, o8] ∧ Ex A A' ∧ A'[n2]? = some (.lst ((grpL bk (l.take i)).map stV)) ∧ A'[n3]? = some (.lst ((grpL bk (l.take i)).map coV)))
      ⟨A.length, A.length + 1, none, none, none, none, none, rfl, (((Ex.refl A).app _).app _), get_app (get_new _ _) _, ?_⟩ (fun _ _ _ _ _ => rfl) (fun i x σ A1 hx hi => ?_)
    · have := get_new (A ++ [.lst [.int 0]]) (.lst [.int 0])
      rw [List.length_append, List.length_singleton] at this; exact this
    obtain ⟨n2, n3, o4, o5, o6, o7, o8, rfl, ex, h2, h3⟩ := hi
    obtain ⟨k, hk, rfl⟩ := row_get hx
    have hin := hl k (List.mem_of_getElem? hk)
    have hil : i < l.length := (List.getElem?_eq_some_iff.mp hk).1
    have gl : (grpL bk (l.take i)).length ≤ 65536 := by
      rw [grpL_len, List.length_take]
      have := Nat.pow_le_pow_right (show 0 < 2 by decide) (show min i l.length ≤ 16 by omega)
      exact this
    have gst := grp_state h hs _ (hl.take i)
    generalize hL : grpL bk (l.take i) = L at h2 h3 gl gst
    -- the pairs
    have e1 : evL c (.comp [6] (.v (.var 2)) (.name 6) (.lit (.bl true)) (.ix (.ix (.var 0) (.var 6)) (.var 4))) [some (bookV bk), some (rowI l), some (.ref n2), some (.ref n3), some (.int k), o5, o6, o7, o8] A1 = .ok (L.map fun p => pairV (nx bk p.1 k)) A1 :=
      compMapI (fun p => pairV (nx bk p.1 k)) rfl h2 (Nat.le_of_lt (size_big (by omega))) fun p hp => by
        obtain ⟨a, b⟩ := gst p hp
        obtain ⟨⟨r, i1, i2⟩, _⟩ := nx_get h a b hin.1 hin.2
        exact ⟨_, rfl, by simp [wipeS, stV, i1, i2]⟩
    have c2 := get_app h2 [AO.lst (L.map fun p => pairV (nx bk p.1 k))]
    have c3 := get_app h3 [AO.lst (L.map fun p => pairV (nx bk p.1 k))]
    have c5 := get_new A1 (.lst (L.map fun p => pairV (nx bk p.1 k)))
    have exA2 := ex.app [AO.lst (L.map fun p => pairV (nx bk p.1 k))]
    have hm : (A1 ++ [AO.lst (L.map fun p => pairV (nx bk p.1 k))]).length = A1.length + 1 := by simp
    generalize hA2 : A1 ++ [AO.lst (L.map fun p => pairV (nx bk p.1 k))] = A2 at c2 c3 c5 exA2 hm
    -- the new costs
    have e2 : evL c (.comp [8, 7] (.zip (.var 3) (.var 5)) (.tup [(.name 8), (.name 7)]) (.lit (.bl true)) (.bin .add (.var 8) (.ix (.var 7) (.lit (.int 1))))) [some (bookV bk), some (rowI l), some (.ref n2), some (.ref n3), some (.int k), some (.ref A1.length), o6, o7, o8] A2 = .ok (L.map fun p => coV (stp bk k p)) A2 :=
      compZipI (fun p => coV (stp bk k p)) rfl rfl c3 c5 (Nat.le_of_lt (size_big (by omega))) fun p hp => ⟨_, rfl, by simp [wipeS, coV, ixp1, stp]⟩
    have d2 := get_app c2 [AO.lst (L.map fun p => coV (stp bk k p))]
    have d3 := get_app c3 [AO.lst (L.map fun p => coV (stp bk k p))]
    have d5 := get_app c5 [AO.lst (L.map fun p => coV (stp bk k p))]
    have dn := get_new A2 (.lst (L.map fun p => coV (stp bk k p)))
    have a2 := add_lst d3 dn (by simp only [List.length_map]; exact Nat.le_of_lt (size_big (by omega)))
    have exA3 := (exA2.app [AO.lst (L.map fun p => coV (stp bk k p))]).app [AO.lst (L.map coV ++ L.map fun p => coV (stp bk k p))]
    have f2 := get_app d2 [AO.lst (L.map coV ++ L.map fun p => coV (stp bk k p))]
    have f5 := get_app d5 [AO.lst (L.map coV ++ L.map fun p => coV (stp bk k p))]
    have fn := get_new (A2 ++ [AO.lst (L.map fun p => coV (stp bk k p))]) (.lst (L.map coV ++ L.map fun p => coV (stp bk k p)))
    generalize (A2 ++ [AO.lst (L.map fun p => coV (stp bk k p))]).length = n3' at a2 fn
    generalize hA3 : A2 ++ [AO.lst (L.map fun p => coV (stp bk k p))] ++ [AO.lst (L.map coV ++ L.map fun p => coV (stp bk k p))] = A3 at a2 exA3 f2 f5 fn
    -- the new states
    have e3 : evL c (.comp [7] (.v (.var 5)) (.name 7) (.lit (.bl true)) (.ix (.var 7) (.lit (.int 0)))) [some (bookV bk), some (rowI l), some (.ref n2), some (.ref n3'), some (.int k), some (.ref A1.length), o6, o7, o8] A3 = .ok (L.map fun p => stV (stp bk k p)) A3 :=
      compMapI (fun p => stV (stp bk k p)) rfl f5 (Nat.le_of_lt (size_big (by omega))) fun p hp => ⟨_, rfl, by simp [wipeS, stV, ixp0, stp]⟩
    have g2 := get_app f2 [AO.lst (L.map fun p => stV (stp bk k p))]
    have gnw := get_new A3 (.lst (L.map fun p => stV (stp bk k p)))
    have a3 := add_lst g2 gnw (by simp only [List.length_map]; exact Nat.le_of_lt (size_big (by omega)))
    have exA4 := (exA3.app [AO.lst (L.map fun p => stV (stp bk k p))]).app [AO.lst (L.map stV ++ L.map fun p => stV (stp bk k p))]
    have k3 := get_app (get_app fn [AO.lst (L.map fun p => stV (stp bk k p))]) [AO.lst (L.map stV ++ L.map fun p => stV (stp bk k p))]
    have kn := get_new (A3 ++ [AO.lst (L.map fun p => stV (stp bk k p))]) (.lst (L.map stV ++ L.map fun p => stV (stp bk k p)))
    generalize (A3 ++ [AO.lst (L.map fun p => stV (stp bk k p))]).length = n2' at a3 kn
    generalize hA4 : A3 ++ [AO.lst (L.map fun p => stV (stp bk k p))] ++ [AO.lst (L.map stV ++ L.map fun p => stV (stp bk k p))] = A4 at a3 exA4 k3 kn
    refine ⟨_, _, rfl, [some (bookV bk), some (rowI l), some (.ref n2'), some (.ref n3'), some (.int k), some (.ref A1.length), o6, o7, o8], A4, ?_, n2', n3', _, _, _, _, _, rfl, exA4, ?_, ?_⟩
    · simp [-List.append_assoc, e1, hA2, e2, a2, e3, a3]
    · rw [kn, take_succ' hk, grpL_snoc, hL, List.map_append, List.map_map]; rfl
    · rw [k3, take_succ' hk, grpL_snoc, hL, List.map_append, List.map_map]; rfl
  obtain ⟨σ', A', h1, n2, n3, o4, o5, o6, o7, o8, rfl, ex, h2, h3⟩ := loop
  rw [List.length_map, List.take_length] at h3
  refine ⟨A', n3, ?_, ex, h3⟩
  simp only [List.append_assoc, List.cons_append, List.nil_append] at h1
  simp [bGCosts, z1, h1]
end
end Ev


set_option linter.all false
set_option maxRecDepth 100000
set_option maxHeartbeats 8000000
namespace Ev
open PySem L2 Sh

/-! ### the law's means over orders and over groups -/
def bOrders : List S := [.asg (.name 1) (.new (.disp [(.tup [])])),
    .for_ (.name 2) (.range1 (.var 0)) [.asg (.name 3) (.new (.disp [])),
      .for_ (.name 4) (.v (.var 1)) [.expr (.mth .extend (.var 3) [(.new (.comp [5] (.range1 (.bin .add (.var 2) (.lit (.int 1)))) (.name 5) (.lit (.bl true)) (.bin .add (.bin .add (.sl (.var 4) none (some (.var 5))) (.tup [(.var 2)])) (.sl (.var 4) (some (.var 5)) none))))])],
      .asg (.name 1) (.var 3)],
    .ret (.var 1)]
def bMeanO : List S := [.asg (.name 2) (.call "_law_orders" [(.var 1)] []),
    .asg (.name 3) (.bin .mul (.new (.disp [(.lit (.int 0))])) (.var 1)),
    .for_ (.name 4) (.v (.var 2)) [.asg (.name 5) (.lit (.int 0)),
      .for_ (.name 6) (.v (.var 4)) [.augs (.var 3) (.var 6) .add (.bin .sub (.ix (.var 0) (.bin .add (.var 5) (.bin .shl (.lit (.int 1)) (.var 6)))) (.ix (.var 0) (.var 5))),
        .aug 5 .add (.bin .shl (.lit (.int 1)) (.var 6))]],
    .ret (.lf .tup (.comp [7] (.v (.var 3)) (.name 7) (.lit (.bl true)) (.call "_law_amount" [(.var 7), (.bif .len [(.var 2)])] [])))]
def ordV (o : List Nat) : AV := .tup (o.map fun (x : Nat) => AV.int (x : Int))
theorem ordL_size : (List.range 6).all (fun n => decide ((ordL n).length ≤ 120) && (ordL n).all fun o => decide (o.length = n)) = true := by decide +kernel
theorem ordL_sz {n : Nat} (h : n ≤ 5) : (ordL n).length ≤ 120 ∧ ∀ o ∈ ordL n, o.length = n := by
  have := List.all_eq_true.mp ordL_size n (List.mem_range.mpr (by omega))
  rw [Bool.and_eq_true, List.all_eq_true] at this
  exact ⟨of_decide_eq_true this.1, fun o ho => of_decide_eq_true (this.2 o ho)⟩
def okO (n : Nat) : Nat → List Nat → Bool
  | _, [] => true | b, x :: r => decide (x < n) && decide (b + 2 ^ x < 2 ^ n) && okO n (b + 2 ^ x) r
theorem ordL_okB : (List.range 6).all (fun n => (ordL n).all (okO n 0)) = true := by decide +kernel
theorem ordL_ok {n : Nat} (h : n ≤ 5) {o : List Nat} (ho : o ∈ ordL n) : okO n 0 o = true := List.all_eq_true.mp (List.all_eq_true.mp ordL_okB n (List.mem_range.mpr (by omega))) o ho
theorem okO_at {n : Nat} : ∀ (o : List Nat) (b i : Nat) {x : Nat}, okO n b o = true → o[i]? = some x → x < n ∧ endm b (o.take i) + 2 ^ x < 2 ^ n
  | [], _, _, _, _, h => by simp at h
  | y :: r, b, 0, x, h, e => by
    simp at e; subst e
    simp only [okO, Bool.and_eq_true, decide_eq_true_eq] at h
    exact h.1
  | y :: r, b, i + 1, x, h, e => by
    simp only [okO, Bool.and_eq_true] at h
    exact okO_at r _ i h.2 (by simpa using e)
theorem add_tupL {A : AH} {xs ys : List AV} (h : xs.length + ys.length ≤ sizeLine) : aBin .add (.tup xs) (.tup ys) A = .ok (.tup (xs ++ ys)) A := by simp only [aBin, if_pos h]
theorem extend_ref {A : AH} {n k : Nat} {ys zs : List AV} (h : A[n]? = some (.lst ys)) (h2 : A[k]? = some (.lst zs)) (hz : ys.length + zs.length ≤ sizeLine) : aMth .extend (.ref n) [.ref k] A = .ok .non (A.set n (.lst (ys ++ zs))) := by
  simp only [aMth, h, h2, if_pos hz]
theorem mthTyE {A : AH} {s : Nat} {xs : List AV} (h : A[s]? = some (.lst xs)) : mthTy .extend (.ref s) A = true := by simp only [mthTy, h]; rfl
theorem ord_ins (o : List Nat) (j a : Nat) (A : AH) (ho : o.length ≤ 100) : ∀ B, (aSl (ordV o) none (some (a : Int)) A = .ok (ordV (o.take a)) A) ∧ (aSl (ordV o) (some (a : Int)) none A = .ok (ordV (o.drop a)) A) ∧
    aBin .add (ordV (o.take a)) (.tup [.int j]) B = .ok (ordV (o.take a ++ [j])) B ∧ aBin .add (ordV (o.take a ++ [j])) (ordV (o.drop a)) B = .ok (ordV (o.take a ++ j :: o.drop a)) B := fun B => by
  refine ⟨?_, ?_, ?_, ?_⟩
  · show Res.ok (AV.tup (cut (o.map fun (x : Nat) => AV.int (x : Int)) none (some (a : Int)))) A = _
    rw [cut_to, ← List.map_take]; rfl
  · show Res.ok (AV.tup (cut (o.map fun (x : Nat) => AV.int (x : Int)) (some (a : Int)) none)) A = _
    rw [cut_from, ← List.map_drop]; rfl
  · unfold ordV
    rw [add_tupL (Nat.le_of_lt (size_big (by simp; omega))), List.map_append]; rfl
  · unfold ordV
    rw [add_tupL (Nat.le_of_lt (size_big (by simp; omega))), ← List.map_append, List.append_assoc]; rfl
theorem range_len (n : Nat) : ((List.range n).map fun (k : Nat) => AV.int (k : Int)).length = n := by simp
def ordersIs (c : Cfg) : Prop := ∀ A (n : Nat), n ≤ 5 → ∃ A' r, c.fn "_law_orders" [.int n] A = .ok (.ref r) A' ∧ Ex A A' ∧ A'[r]? = some (.lst ((ordL n).map ordV))
theorem orders_ev (c : Cfg) (A : AH) {n : Nat} (hn : n ≤ 5) : ∃ A' r, (evSs c bOrders [some (.int n), none, none, none, none, none] A).fin = .ok (.ref r) A' ∧ Ex A A' ∧ A'[r]? = some (.lst ((ordL n).map ordV)) := by
  have z1 : 1 ≤ sizeLine := Nat.le_of_lt (size_big (by omega))
  have loop : ∃ σ' A', evS c (.for_ (.name 2) (.range1 (.var 0)) [.asg (.name 3) (.new (.disp [])),
      .for_ (.name 4) (.v (.var 1)) [.expr (.mth .extend (.var 3) [(.new (.comp [5] (.range1 (.bin .add (.var 2) (.lit (.int 1)))) (.name 5) (.lit (.bl true)) (.bin .add (.bin .add (.sl (.var 4) none (some (.var 5))) (.tup [(.var 2)])) (.sl (.var 4) (some (.var 5)) none))))])],
      .asg (.name 1) (.var 3)]) [some (.int n), some (.ref A.length), none, none, none, none] (A ++ [.lst [.tup []]]) = .next σ' A' ∧ ∃ r o2 o3 o4 o5, σ' = [some (.int n), some (.ref r), o2, o3, o4, o5] ∧ Ex A A' ∧ A'[r]? = some (.lst ((ordL ((List.range n).map fun (k : Nat) => AV.int (k : Int)).length).map ordV)) := by
    rw [forN (n := n) (by simp) (by omega)]
    refine for_end (fun j σ A' => ∃ r o2 o3 o4 o5, σ = [some (.int n), some (.ref r), o2, o3, o4, o5] ∧ Ex A A' ∧ A'[r]? = some (.lst ((ordL j).map ordV))) ⟨A.length, none, none, none, none, rfl, (Ex.refl A).app _, get_new _ _⟩ (fun _ _ _ _ _ => rfl) (fun j x σ A1 hx hj => ?_)
    obtain ⟨r, o2, o3, o4, o5, rfl, ex, hr⟩ := hj
    obtain ⟨hjn, rfl⟩ := range_get hx
    obtain ⟨sz1, sz2⟩ := ordL_sz (n := j) (by omega)
    refine ⟨_, _, rfl, ?_⟩
    have hr0 := get_app hr [AO.lst []]
    have inner : ∃ σ' A', evS c (.for_ (.name 4) (.v (.var 1)) [.expr (.mth .extend (.var 3) [(.new (.comp [5] (.range1 (.bin .add (.var 2) (.lit (.int 1)))) (.name 5) (.lit (.bl true)) (.bin .add (.bin .add (.sl (.var 4) none (some (.var 5))) (.tup [(.var 2)])) (.sl (.var 4) (some (.var 5)) none))))])])
        [some (.int n), some (.ref r), some (.int j), some (.ref A1.length), o4, o5] (A1 ++ [.lst []]) = .next σ' A' ∧ ∃ o4 o5, σ' = [some (.int n), some (.ref r), some (.int j), some (.ref A1.length), o4, o5] ∧ Ex A A' ∧ A'[r]? = some (.lst ((ordL j).map ordV)) ∧
          A'[A1.length]? = some (.lst ((((ordL j).take ((ordL j).map ordV).length).flatMap fun o => (List.range (j + 1)).map fun a => o.take a ++ j :: o.drop a).map ordV)) := by
      rw [forO (n := r) (A' := A1 ++ [.lst []]) rfl hr0]
      refine for_end (fun i σ A' => ∃ o4 o5, σ = [some (.int n), some (.ref r), some (.int j), some (.ref A1.length), o4, o5] ∧ Ex A A' ∧ A'[r]? = some (.lst ((ordL j).map ordV)) ∧
          A'[A1.length]? = some (.lst ((((ordL j).take i).flatMap fun o => (List.range (j + 1)).map fun a => o.take a ++ j :: o.drop a).map ordV))) ⟨o4, o5, rfl, ex.app _, hr0, get_new _ _⟩ (fun i σ A' _ hi => by obtain ⟨_, _, _, _, h, _⟩ := hi; exact chk_obj h) (fun i x σ A2 hx hi => ?_)
      obtain ⟨o4, o5, rfl, ex2, hr2, hl2⟩ := hi
      rw [List.getElem?_map] at hx
      obtain ⟨o, ho, rfl⟩ := Option.map_eq_some_iff.mp hx
      have hom := List.mem_of_getElem? ho
      have hil : i < (ordL j).length := (List.getElem?_eq_some_iff.mp ho).1
      have hol := sz2 o hom
      have e1 : evL c (.comp [5] (.range1 (.bin .add (.var 2) (.lit (.int 1)))) (.name 5) (.lit (.bl true)) (.bin .add (.bin .add (.sl (.var 4) none (some (.var 5))) (.tup [(.var 2)])) (.sl (.var 4) (some (.var 5)) none))) [some (.int n), some (.ref r), some (.int j), some (.ref A1.length), some (ordV o), o5] A2 =
          .ok ((List.range (j + 1)).map fun a => ordV (o.take a ++ j :: o.drop a)) A2 := by
        rw [compN (n := j + 1) (A' := A2) (by simp) (by omega)]
        obtain ⟨acc, A', h1, rfl, rfl⟩ := comp_run (chk := (Itm.val ((List.range (j + 1)).map fun (k : Nat) => AV.int (k : Int))).chk) (tg := fun x A => evTg c (.name 5) x (wipeS [some (.int n), some (.ref r), some (.int j), some (.ref A1.length), some (ordV o), o5] [5]) A) (q := fun σ A => (evE c (.lit (.bl true)) σ A).bind tru) (elt := fun σ A => evE c (.bin .add (.bin .add (.sl (.var 4) none (some (.var 5))) (.tup [(.var 2)])) (.sl (.var 4) (some (.var 5)) none)) σ A) (xs := (List.range (j + 1)).map fun (k : Nat) => AV.int (k : Int)) (A := A2)
          (fun i acc A' => A' = A2 ∧ acc = (List.range i).map fun a => ordV (o.take a ++ j :: o.drop a)) ⟨rfl, rfl⟩ (by rw [range_len]; exact Nat.le_of_lt (size_big (by omega))) (fun i acc A' _ ⟨e1, e2⟩ => ⟨rfl, by rw [e2]; simp⟩) (fun a x acc A' hx ⟨e1, e2⟩ => by
            subst e1
            obtain ⟨ha, rfl⟩ := range_get hx
            obtain ⟨p1, p2, p3, p4⟩ := ord_ins o j a A' (by omega) A'
            refine ⟨_, _, true, A', rfl, rfl, ?_⟩
            rw [if_pos rfl]
            exact ⟨_, A', by simp [wipeS, p1, p2, z1, p3, p4]; rfl, rfl, by rw [e2, List.range_succ, List.map_append]; rfl⟩)
        rw [h1, range_len]
      have hA1l : A1.length < A2.length := get_lt hl2
      have q1 := get_app hl2 [AO.lst ((List.range (j + 1)).map fun a => ordV (o.take a ++ j :: o.drop a))]
      have q2 := get_new A2 (.lst ((List.range (j + 1)).map fun a => ordV (o.take a ++ j :: o.drop a)))
      have q3 := extend_ref q1 q2 (by
        rw [List.length_map, flat2_len (fun (o : List Nat) => (List.range (j + 1)).map fun a => o.take a ++ j :: o.drop a) (j + 1) (fun o => by simp), List.length_map, List.length_range, List.length_take]
        refine Nat.le_of_lt (size_big ?_)
        have h1 : min i (ordL j).length ≤ 120 := by omega
        have h2 := Nat.mul_le_mul (show j + 1 ≤ 6 by omega) h1
        omega)
      refine ⟨_, _, rfl, [some (.int n), some (.ref r), some (.int j), some (.ref A1.length), some (ordV o), o5], (A2 ++ [AO.lst ((List.range (j + 1)).map fun a => ordV (o.take a ++ j :: o.drop a))]).set A1.length _, ?_, _, _, rfl, (ex2.app _).set ex.len _, get_set_ne (get_app hr2 _) (by have := get_lt hr; omega), get_set (by simp; omega)⟩
      rw [flat_take _ ho, List.map_append, List.map_map]
      simp [mthTyE hl2, e1, q3, -List.map_flatMap]
      rfl
    obtain ⟨σ2, A2, i1, o4', o5', rfl, ex2, _, hl2⟩ := inner
    rw [List.length_map, List.take_length] at hl2
    exact ⟨[some (.int n), some (.ref A1.length), some (.int j), some (.ref A1.length), o4', o5'], A2, by simp [i1], A1.length, _, _, _, _, rfl, ex2, hl2⟩
  obtain ⟨σ', A', h1, r, o2, o3, o4, o5, rfl, ex, hr⟩ := loop
  rw [range_len] at hr
  exact ⟨A', r, by simp [bOrders, z1, h1], ex, hr⟩
end Ev


set_option linter.all false
set_option maxRecDepth 100000
set_option maxHeartbeats 8000000
namespace Ev
open PySem L2 Sh

def lF (n : Nat) (F : Nat → Int) : List Int := (List.range n).map F
theorem lF_len (n : Nat) (F : Nat → Int) : (lF n F).length = n := by simp [lF]
theorem lF_get {n i : Nat} (F : Nat → Int) (h : i < n) : (lF n F).getD i 0 = F i := by
  unfold lF
  rw [List.getD_eq_getElem?_getD, List.getElem?_map, List.getElem?_range h]; rfl
theorem lF_congr {n : Nat} {F F' : Nat → Int} (h : ∀ i, i < n → F i = F' i) : lF n F = lF n F' := List.map_congr_left fun i hi => h i (List.mem_range.mp hi)
theorem lstF {n : Nat} {F F' : Nat → Int} (h : ∀ i, i < n → F i = F' i) : some (AO.lst ((lF n F).map AV.int)) = some (AO.lst ((lF n F').map AV.int)) := by rw [lF_congr h]
theorem lF_set {n x : Nat} (F : Nat → Int) (v : Int) : (lF n F).set x v = lF n fun i => if i = x then v else F i := by
  unfold lF
  apply List.ext_getElem?
  intro i
  by_cases hi : i < n
  · by_cases e : i = x
    · subst e
      rw [List.getElem?_set_self (by simpa using hi), List.getElem?_map, List.getElem?_range hi]; simp
    · rw [List.getElem?_set_ne (Ne.symm e), List.getElem?_map, List.getElem?_map, List.getElem?_range hi]; simp [e]
  · rw [List.getElem?_eq_none (by simp; omega), List.getElem?_eq_none (by simp; omega)]
theorem rep_lF (n : Nat) : List.replicate n (0 : Int) = lF n fun _ => 0 := by
  unfold lF
  rw [List.map_const', List.length_range]
theorem shl1 (x : Nat) (A : AH) (h : x ≤ 1000000) : aBin .shl (.int 1) (.int (x : Int)) A = .ok (.int ((2 ^ x : Nat) : Int)) A := by
  have : powOk 1 (x : Int) = true := by
    unfold powOk
    have h1 : (0 : Int) ≤ x := by omega
    have h2 : (x : Int) ≤ 1000000 := by omega
    simp [h1, h2]
  simp only [aBin, this, if_true, Int.one_mul, Int.toNat_natCast, Int.natCast_pow]
  rfl
theorem cost_get (bk : List (List (Int × Int))) (l : List Int) {m : Nat} {A : AH} {n : Nat} (h : A[n]? = some (.lst ((grpL bk l).map coV))) (hm : m < 2 ^ l.length) : aIx (.ref n) (.int (m : Int)) A = some (.int (G bk l m).2) := by
  rw [ix_ref h]
  refine atI_nat ?_
  have hl := grpL_len bk l
  rw [List.getElem?_map, List.getElem?_eq_getElem (by omega)]
  unfold G
  rw [List.getD_eq_getElem?_getD, List.getElem?_eq_getElem (by omega)]; rfl
def bMG1 : List S := [.if_ (.cmp .eq (.bin .band (.bin .shr (.var 3) (.var 4)) (.lit (.int 1))) (.lit (.int 0))) [.augs (.var 2) (.bin .add (.var 3) (.bin .shl (.lit (.int 1)) (.var 4))) .add (.ix (.var 2) (.var 3))] []]
def bMG2 : List S := [.if_ (.cmp .eq (.bin .band (.bin .shr (.var 3) (.var 4)) (.lit (.int 1))) (.lit (.int 0))) [.asg (.name 6) (.bin .add (.var 3) (.bin .shl (.lit (.int 1)) (.var 4))),
          .augs (.var 5) (.var 4) .add (.bin .mul (.bin .mul (.ix (.var 2) (.var 3)) (.ix (.var 2) (.bin .sub (.bin .sub (.bif .len [(.var 0)]) (.lit (.int 1))) (.var 6)))) (.bin .sub (.ix (.var 0) (.var 6)) (.ix (.var 0) (.var 3))))] []]
def bMeanG : List S := [.asg (.name 2) (.bin .add (.new (.disp [(.lit (.int 1))])) (.bin .mul (.new (.disp [(.lit (.int 0))])) (.bin .sub (.bif .len [(.var 0)]) (.lit (.int 1))))),
    .for_ (.name 3) (.range1 (.bif .len [(.var 0)])) [.for_ (.name 4) (.range1 (.var 1)) bMG1],
    .asg (.name 5) (.bin .mul (.new (.disp [(.lit (.int 0))])) (.var 1)),
    .for_ (.name 3) (.range1 (.bif .len [(.var 0)])) [.for_ (.name 4) (.range1 (.var 1)) bMG2],
    .ret (.lf .tup (.comp [7] (.v (.var 5)) (.name 7) (.lit (.bl true)) (.call "_law_amount" [(.var 7), (.ix (.var 2) (.bin .sub (.bif .len [(.var 0)]) (.lit (.int 1))))] [])))]
theorem bit_int (m i : Nat) (A : AH) : aBin .shr (.int (m : Int)) (.int (i : Int)) A = .ok (.int ((m / 2 ^ i : Nat) : Int)) A ∧ aBin .band (.int ((m / 2 ^ i : Nat) : Int)) (.int 1) A = .ok (.int (if m.testBit i then 1 else 0)) A := by
  constructor
  · have h : (0 : Int) ≤ i := by omega
    simp only [aBin, if_pos h, Int.toNat_natCast]
    congr 2
  · have e : Builtin.bitAnd ((m / 2 ^ i : Nat) : Int) 1 = if m.testBit i then 1 else 0 := by
      unfold Builtin.bitAnd
      rw [decide_eq_true (Int.natCast_nonneg (m / 2 ^ i)), decide_eq_true (by omega : (0 : Int) ≤ 1)]
      show (((((m / 2 ^ i : Nat) : Int)).toNat &&& (1 : Int).toNat : Nat) : Int) = _
      rw [Int.toNat_natCast]
      show ((m / 2 ^ i &&& 1 : Nat) : Int) = _
      rw [Nat.and_one_is_mod, Nat.testBit_eq_decide_div_mod_eq]
      have := Nat.mod_lt (m / 2 ^ i) (show 0 < 2 by decide)
      by_cases h : m / 2 ^ i % 2 = 1
      · simp [h]
      · have : m / 2 ^ i % 2 = 0 := by omega
        simp [this]
    simp only [aBin, e]
section
variable {bk : List (List (Int × Int))} {kinds states : Nat} {lo hi : Int}
/-- the last comprehension: amounts of what was made -/
theorem amts (c : Cfg) (am : lamountIs c) {n own : Nat} {v i7 : Nat} {σ : Sl} {A : AH} {r : Nat} {F : Nat → Int} {D : Int} {q : E} (hn : n ≤ 16) (hv : σ[v]? = some (some (.ref r))) (hr : A[r]? = some (.lst ((lF n F).map .int))) (h7 : i7 < σ.length) (hne : v ≠ i7) (hD : 0 < D) (hD2 : D < 2 ^ 64)
    (hq : ∀ x, evE c q ((σ.set i7 none).set i7 x) A = .ok (.int D) A) : evL c (.comp [i7] (.v (.var v)) (.name i7) (.lit (.bl true)) (.call "_law_amount" [(.var i7), q] [])) σ A = .ok ((List.range n).map fun i => pairV (red (F i) D)) A := by
  have hr' : A[r]? = some (.lst ((List.range n).map fun i => AV.int (F i))) := by rw [hr]; unfold lF; rw [List.map_map]; rfl
  refine compMapI (L := List.range n) (g := fun i => AV.int (F i)) (fun i => pairV (red (F i) D)) (by simp [hv]) hr' (by simp; exact Nat.le_of_lt (size_big (by omega))) fun i hi => ?_
  refine ⟨_, rfl, ?_⟩
  have e : ((wipeS σ [i7]).set i7 (some (.int (F i))))[i7]? = some (some (.int (F i))) := by
    rw [List.getElem?_set_self (by simpa [wipeS] using h7)]
  have a := am A (F i) D hD hD2
  have hq' := hq (some (.int (F i)))
  simp only [wipeS] at e ⊢
  simp only [evE_call, evEs_cons, evE_var, e, bind_ok, kCons_eq, hq', evEs_nil, kCons2_eq, kCall_eq, List.append_nil, a]
def meanOIs (c : Cfg) (bk : List (List (Int × Int))) : Prop := ∀ A (l : List Int) (n : Nat), l.length ≤ 5 → A[n]? = some (.lst ((grpL bk l).map coV)) → ∃ A', c.fn "_law_mean_of_orders" [.ref n, .int (l.length : Int)] A = .ok (.tup ((dueL bk l).map pairV)) A' ∧ Ex A A'
theorem meanO_ev (c : Cfg) (oi : ordersIs c) (am : lamountIs c) (A : AH) {l : List Int} {n : Nat} (hz : l.length ≤ 5) (hC : A[n]? = some (.lst ((grpL bk l).map coV))) : ∃ A', (evSs c bMeanO [some (.ref n), some (.int (l.length : Int)), none, none, none, none, none, none] A).fin = .ok (.tup ((dueL bk l).map pairV)) A' ∧ Ex A A' := by
  have z1 : 1 ≤ sizeLine := Nat.le_of_lt (size_big (by omega))
  obtain ⟨A1, r, e1, ex1, hr⟩ := oi A l.length hz
  have f0 := get_new A1 (.lst [.int 0])
  have mm := mul_lst (k := l.length) f0 (by simp; exact Nat.le_of_lt (size_big (by omega))) (by omega)
  rw [zeros, rep_lF] at mm
  have hr2 := get_app (get_app hr [AO.lst [.int 0]]) [AO.lst ((lF l.length fun _ => 0).map AV.int)]
  have hS := get_new (A1 ++ [AO.lst [.int 0]]) (.lst ((lF l.length fun _ => 0).map AV.int))
  have exB := (ex1.app [AO.lst [.int 0]]).app [AO.lst ((lF l.length fun _ => 0).map AV.int)]
  have hAn : A.length ≤ (A1 ++ [AO.lst [AV.int 0]]).length := by have := ex1.len; simp; omega
  have hrs : r < (A1 ++ [AO.lst [AV.int 0]]).length := by have := get_lt hr; simp; omega
  generalize (A1 ++ [AO.lst [AV.int 0]]).length = s at mm hS hAn hrs
  generalize hB : A1 ++ [AO.lst [AV.int 0]] ++ [AO.lst ((lF l.length fun _ => 0).map AV.int)] = B at mm hr2 hS exB
  have hCn := get_lt hC
  have loop : ∃ σ' A', evS c (.for_ (.name 4) (.v (.var 2)) [.asg (.name 5) (.lit (.int 0)),
      .for_ (.name 6) (.v (.var 4)) [.augs (.var 3) (.var 6) .add (.bin .sub (.ix (.var 0) (.bin .add (.var 5) (.bin .shl (.lit (.int 1)) (.var 6)))) (.ix (.var 0) (.var 5))),
        .aug 5 .add (.bin .shl (.lit (.int 1)) (.var 6))]]) [some (.ref n), some (.int (l.length : Int)), some (.ref r), some (.ref s), none, none, none, none] B = .next σ' A' ∧
      ∃ o4 o5 o6, σ' = [some (.ref n), some (.int (l.length : Int)), some (.ref r), some (.ref s), o4, o5, o6, none] ∧ Ex A A' ∧ A'[r]? = some (.lst ((ordL l.length).map ordV)) ∧ A'[s]? = some (.lst ((lF l.length fun i => (((ordL l.length).take ((ordL l.length).map ordV).length).map (con (fun m => (G bk l m).2) i 0)).sum).map .int)) := by
    rw [forO (n := r) (A' := B) rfl hr2]
    refine for_end (fun j σ A' => ∃ o4 o5 o6, σ = [some (.ref n), some (.int (l.length : Int)), some (.ref r), some (.ref s), o4, o5, o6, none] ∧ Ex A A' ∧ A'[r]? = some (.lst ((ordL l.length).map ordV)) ∧ A'[s]? = some (.lst ((lF l.length fun i => (((ordL l.length).take j).map (con (fun m => (G bk l m).2) i 0)).sum).map .int)))
      ⟨none, none, none, rfl, exB, hr2, hS⟩ (fun i σ A' _ hi => by obtain ⟨_, _, _, _, _, h, _⟩ := hi; exact chk_obj h) (fun j x σ A2 hx hj => ?_)
    obtain ⟨o4, o5, o6, rfl, ex2, hr2, hs2⟩ := hj
    rw [List.getElem?_map] at hx
    obtain ⟨o, ho, rfl⟩ := Option.map_eq_some_iff.mp hx
    have hom := List.mem_of_getElem? ho
    have ok := ordL_ok hz hom
    have hol := (ordL_sz hz).2 o hom
    refine ⟨_, _, rfl, ?_⟩
    have inner : ∃ σ' A', evS c (.for_ (.name 6) (.v (.var 4)) [.augs (.var 3) (.var 6) .add (.bin .sub (.ix (.var 0) (.bin .add (.var 5) (.bin .shl (.lit (.int 1)) (.var 6)))) (.ix (.var 0) (.var 5))),
        .aug 5 .add (.bin .shl (.lit (.int 1)) (.var 6))]) [some (.ref n), some (.int (l.length : Int)), some (.ref r), some (.ref s), some (ordV o), some (.int 0), o6, none] A2 = .next σ' A' ∧
        ∃ o6, σ' = [some (.ref n), some (.int (l.length : Int)), some (.ref r), some (.ref s), some (ordV o), some (.int ((endm 0 (o.take (o.map fun (x : Nat) => AV.int (x : Int)).length) : Nat) : Int)), o6, none] ∧ Ex A A' ∧ A'[r]? = some (.lst ((ordL l.length).map ordV)) ∧
          A'[s]? = some (.lst ((lF l.length fun i => (((ordL l.length).take j).map (con (fun m => (G bk l m).2) i 0)).sum + con (fun m => (G bk l m).2) i 0 (o.take (o.map fun (x : Nat) => AV.int (x : Int)).length)).map .int)) := by
      rw [forV (xs := o.map fun (x : Nat) => AV.int (x : Int)) rfl]
      refine for_end (fun i σ A' => ∃ o6, σ = [some (.ref n), some (.int (l.length : Int)), some (.ref r), some (.ref s), some (ordV o), some (.int ((endm 0 (o.take i) : Nat) : Int)), o6, none] ∧ Ex A A' ∧ A'[r]? = some (.lst ((ordL l.length).map ordV)) ∧
          A'[s]? = some (.lst ((lF l.length fun k => (((ordL l.length).take j).map (con (fun m => (G bk l m).2) k 0)).sum + con (fun m => (G bk l m).2) k 0 (o.take i)).map .int)))
        ⟨o6, rfl, ex2, hr2, by rw [hs2]; congr 4; funext i; show _ = _ + 0; omega⟩ (fun _ _ _ _ _ => rfl) (fun i x σ A3 hx hi => ?_)
      obtain ⟨o6, rfl, ex3, hr3, hs3⟩ := hi
      rw [List.getElem?_map] at hx
      obtain ⟨x, hxo, rfl⟩ := Option.map_eq_some_iff.mp hx
      obtain ⟨hxl, hb⟩ := okO_at o 0 i ok hxo
      have p2 := Nat.two_pow_pos x
      have hC3 := ex3.get hC
      generalize hE : endm 0 (o.take i) = b at hb hs3 ⊢
      have g1 : aIx (.ref n) (.int ((b : Int) + ((2 ^ x : Nat) : Int))) A3 = some (.int (G bk l (b + 2 ^ x)).2) := by
        have := cost_get bk l hC3 hb
        rw [Int.natCast_add] at this; exact this
      have g2 := cost_get bk l hC3 (show b < 2 ^ l.length by omega)
      have g3 := ix_ints hs3 (i := x) (by rw [lF_len]; omega)
      have g4 : ∀ v, aSet (.ref s) (.int (x : Int)) (.int v) A3 = _ := fun v => set_ints hs3 (i := x) (by rw [lF_len]; omega)
      have sh : ∀ B, aBin .shl (.int 1) (.int (x : Int)) B = .ok (.int ((2 ^ x : Nat) : Int)) B := fun B => shl1 x B (by omega)
      refine ⟨_, _, rfl, [some (.ref n), some (.int (l.length : Int)), some (.ref r), some (.ref s), some (ordV o), some (.int ((endm 0 (o.take (i + 1)) : Nat) : Int)), some (.int (x : Int)), none], A3.set s (.lst ((lF l.length fun k => (((ordL l.length).take j).map (con (fun m => (G bk l m).2) k 0)).sum + con (fun m => (G bk l m).2) k 0 (o.take (i + 1))).map .int)), ?_, _, rfl, ex3.set hAn _, get_set_ne hr3 (by omega), get_set (get_lt hs3)⟩
      have es : (lF l.length fun k => (((ordL l.length).take j).map (con (fun m => (G bk l m).2) k 0)).sum + con (fun m => (G bk l m).2) k 0 (o.take i)).set x ((lF l.length fun k => (((ordL l.length).take j).map (con (fun m => (G bk l m).2) k 0)).sum + con (fun m => (G bk l m).2) k 0 (o.take i)).getD x 0 + ((G bk l (b + 2 ^ x)).2 - (G bk l b).2)) =
          lF l.length fun k => (((ordL l.length).take j).map (con (fun m => (G bk l m).2) k 0)).sum + con (fun m => (G bk l m).2) k 0 (o.take (i + 1)) := by
        rw [lF_set, lF_get _ (by omega)]
        refine lF_congr fun k _ => ?_
        rw [take_get hxo, con_snoc, hE]
        by_cases e : k = x
        · subst e; simp; omega
        · have : ¬ x = k := fun z => e z.symm
          simp [e, this]
      rw [take_get hxo, endm_snoc, hE, ← take_get hxo, ← es, Int.natCast_add]
      simp only [evSs_cons, evS_augs, evS_aug, evE_bin, evE_ix, evE_var, evE_lit, List.getElem?_cons_zero, List.getElem?_cons_succ, List.set_cons_zero, List.set_cons_succ, bind_ok, out_ok, kAugs_eq, kAugs2_eq, mthTy_ref hs3, if_true, g3, kIx_eq, kIx2_eq, kBin_eq, sh, add_int, g1, g2, sub_int, kAugs3_eq, augadd_int, kAugs4_eq, g4, seq_next, kSs_eq, evSs_nil, kAug_eq, kAug2_eq, evTg_name]
    obtain ⟨σ2, A3, i1, o6', rfl, ex3, hr3, hs3⟩ := inner
    rw [List.length_map, List.take_length] at hs3 i1
    refine ⟨[some (.ref n), some (.int (l.length : Int)), some (.ref r), some (.ref s), some (ordV o), some (.int ((endm 0 o : Nat) : Int)), o6', none], A3, by simp [i1], _, _, _, rfl, ex3, hr3, ?_⟩
    rw [hs3]
    congr 4
    funext i
    rw [take_get ho, List.map_append, List.sum_append]; simp
  obtain ⟨σ', A', h1, o4, o5, o6, rfl, ex, hr', hs'⟩ := loop
  rw [List.length_map, List.take_length] at hs'
  have hs2 : A'[s]? = some (.lst ((lF l.length fun i => mar l.length (shw l.length) (fun m => (G bk l m).2) i).map .int)) := by
    rw [hs']; exact lstF fun i hi => orders_mar hz hi _
  have p3 := fac_lt (n := l.length) (by omega)
  have ln : ∀ x, evE c (.bif .len [(.var 2)]) (([some (.ref n), some (.int (l.length : Int)), some (.ref r), some (.ref s), o4, o5, o6, none].set 7 none).set 7 x) A' = .ok (.int (fac l.length)) A' := fun x => by
    have := len_ref hr'
    rw [List.length_map, ordL_len hz] at this
    simp [this]
  have fin := amts c am (n := l.length) (own := 7) (v := 3) (i7 := 7) (σ := [some (.ref n), some (.int (l.length : Int)), some (.ref r), some (.ref s), o4, o5, o6, none]) (A := A') (r := s) (q := .bif .len [(.var 2)]) (by omega) rfl hs2 (by simp) (by decide) p3.1 (by omega) ln
  refine ⟨A', ?_, ex⟩
  simp [bMeanO, e1, z1, mm, h1, fin, aLF, dueL]
def meanGIs (c : Cfg) (bk : List (List (Int × Int))) : Prop := ∀ A (l : List Int) (n : Nat), l.length ≤ 10 → A[n]? = some (.lst ((grpL bk l).map coV)) → ∃ A', c.fn "_law_mean_of_groups" [.ref n, .int (l.length : Int)] A = .ok (.tup ((dueL bk l).map pairV)) A' ∧ Ex A A'
theorem fac_10 : (List.range 11).all (fun n => decide (facN n ≤ 2 ^ 22)) = true := by decide +kernel
theorem fac_lt10 {n : Nat} (h : n ≤ 10) : 0 < fac n ∧ fac n ≤ 2 ^ 22 := by
  have := of_decide_eq_true (List.all_eq_true.mp fac_10 n (List.mem_range.mpr (by omega)))
  have h2 := fac_N n
  exact ⟨fac_pos n, by omega⟩
/-- one group's part in what is made -/
def trm (C : Nat → Int) (n m i : Nat) : Int := if m.testBit i then 0 else fac (pc n m) * fac (pc n (2 ^ n - 1 - (m + 2 ^ i))) * (C (m + 2 ^ i) - C m)
theorem meanG_ev (c : Cfg) (am : lamountIs c) (A : AH) {l : List Int} {n : Nat} (hz : l.length ≤ 10) (hC : A[n]? = some (.lst ((grpL bk l).map coV))) : ∃ A', (evSs c bMeanG [some (.ref n), some (.int (l.length : Int)), none, none, none, none, none, none] A).fin = .ok (.tup ((dueL bk l).map pairV)) A' ∧ Ex A A' := by
  have z1 : 1 ≤ sizeLine := Nat.le_of_lt (size_big (by omega))
  obtain ⟨N, hN⟩ : ∃ N, l.length = N := ⟨_, rfl⟩
  rw [hN] at hz ⊢
  have pN : 2 ^ N ≤ 1024 := Nat.pow_le_pow_right (show 0 < 2 by decide) hz
  have pN0 := Nat.two_pow_pos N
  have lenC : ∀ B, Ex A B → aBif .len [.ref n] B = .ok (.int ((2 ^ N : Nat) : Int)) B := fun B ex => by
    have := len_ref (ex.get hC)
    rw [List.length_map, grpL_len, hN] at this; exact this
  have hCn := get_lt hC
  -- ways
  have f0 := get_new A (.lst [.int 1])
  have f1 := get_new (A ++ [.lst [.int 1]]) (.lst [.int 0])
  have hl0 : [AV.int 0].length * (2 ^ N - 1) ≤ 1000000 := by simp only [List.length_singleton, Nat.one_mul]; omega
  have m1 := mul_lst (k := 2 ^ N - 1) f1 (Nat.le_of_lt (size_big hl0)) (by omega)
  rw [zeros] at m1
  have f2 := get_app (get_app f0 [AO.lst [.int 0]]) [AO.lst ((List.replicate (2 ^ N - 1) (0 : Int)).map AV.int)]
  have f3 := get_new (A ++ [.lst [.int 1]] ++ [AO.lst [.int 0]]) (.lst ((List.replicate (2 ^ N - 1) (0 : Int)).map AV.int))
  have hl1 : [AV.int 1].length + ((List.replicate (2 ^ N - 1) (0 : Int)).map AV.int).length ≤ 1000000 := by simp; omega
  have a1 := add_lst f2 f3 (Nat.le_of_lt (size_big hl1))
  have ewf : [AV.int 1] ++ (List.replicate (2 ^ N - 1) (0 : Int)).map AV.int = (lF (2 ^ N) (wf N 0 0)).map AV.int := by
    have e1 : lF (2 ^ N) (wf N 0 0) = 1 :: List.replicate (2 ^ N - 1) 0 := by
      apply List.ext_getElem?
      intro i
      cases i with
      | zero =>
        unfold lF
        rw [List.getElem?_map, List.getElem?_range pN0]; simp [wf_init]
      | succ i =>
        unfold lF
        rw [List.getElem?_cons_succ, List.getElem?_map, List.getElem?_replicate]
        by_cases hi : i + 1 < 2 ^ N
        · have : i < 2 ^ N - 1 := by omega
          rw [List.getElem?_range hi]; simp [wf_init, this]
        · have : ¬ i < 2 ^ N - 1 := by omega
          rw [List.getElem?_eq_none (by simp; omega)]; simp [this]
    rw [e1]; rfl
  rw [ewf] at a1
  have g1 := get_new (A ++ [.lst [.int 1]] ++ [AO.lst [.int 0]] ++ [AO.lst ((List.replicate (2 ^ N - 1) (0 : Int)).map AV.int)]) (.lst ((lF (2 ^ N) (wf N 0 0)).map AV.int))
  have ex1 := ((((Ex.refl A).app [AO.lst [.int 1]]).app [AO.lst [.int 0]]).app [AO.lst ((List.replicate (2 ^ N - 1) (0 : Int)).map AV.int)]).app [AO.lst ((lF (2 ^ N) (wf N 0 0)).map AV.int)]
  have hw : A.length ≤ (A ++ [AO.lst [.int 1]] ++ [AO.lst [.int 0]] ++ [AO.lst ((List.replicate (2 ^ N - 1) (0 : Int)).map AV.int)]).length := by simp
  generalize (A ++ [AO.lst [AV.int 1]] ++ [AO.lst [.int 0]] ++ [AO.lst ((List.replicate (2 ^ N - 1) (0 : Int)).map AV.int)]).length = w at a1 g1 hw
  generalize hA1 : A ++ [AO.lst [AV.int 1]] ++ [AO.lst [.int 0]] ++ [AO.lst ((List.replicate (2 ^ N - 1) (0 : Int)).map AV.int)] ++ [AO.lst ((lF (2 ^ N) (wf N 0 0)).map AV.int)] = A1 at a1 g1 ex1
  have shx : ∀ (x : Nat), x < N → ∀ B, aBin .shl (.int 1) (.int (x : Int)) B = .ok (.int ((2 ^ x : Nat) : Int)) B := fun x hx B => shl1 x B (by omega)
  have loop1 : ∃ σ' A', evS c (.for_ (.name 3) (.range1 (.bif .len [(.var 0)])) [.for_ (.name 4) (.range1 (.var 1)) bMG1]) [some (.ref n), some (.int (N : Int)), some (.ref w), none, none, none, none, none] A1 = .next σ' A' ∧
      ∃ o3 o4, σ' = [some (.ref n), some (.int (N : Int)), some (.ref w), o3, o4, none, none, none] ∧ Ex A A' ∧ A'[w]? = some (.lst ((lF (2 ^ N) (wf N ((List.range (2 ^ N)).map fun (k : Nat) => AV.int (k : Int)).length 0)).map .int)) := by
    rw [forN (n := 2 ^ N) (by simpa using lenC A1 ex1) (by omega)]
    refine for_end (fun b σ A' => ∃ o3 o4, σ = [some (.ref n), some (.int (N : Int)), some (.ref w), o3, o4, none, none, none] ∧ Ex A A' ∧ A'[w]? = some (.lst ((lF (2 ^ N) (wf N b 0)).map .int))) ⟨none, none, rfl, ex1, g1⟩ (fun _ _ _ _ _ => rfl) (fun b x σ A2 hx hi => ?_)
    obtain ⟨o3, o4, rfl, ex2, h2⟩ := hi
    obtain ⟨hb, rfl⟩ := range_get hx
    refine ⟨_, _, rfl, ?_⟩
    have inner : ∃ σ' A', evS c (.for_ (.name 4) (.range1 (.var 1)) bMG1) [some (.ref n), some (.int (N : Int)), some (.ref w), some (.int (b : Int)), o4, none, none, none] A2 = .next σ' A' ∧
        ∃ o4, σ' = [some (.ref n), some (.int (N : Int)), some (.ref w), some (.int (b : Int)), o4, none, none, none] ∧ Ex A A' ∧ A'[w]? = some (.lst ((lF (2 ^ N) (wf N b ((List.range N).map fun (k : Nat) => AV.int (k : Int)).length)).map .int)) := by
      rw [forN (n := N) (by simp) (by omega)]
      refine for_end (fun j σ A' => ∃ o4, σ = [some (.ref n), some (.int (N : Int)), some (.ref w), some (.int (b : Int)), o4, none, none, none] ∧ Ex A A' ∧ A'[w]? = some (.lst ((lF (2 ^ N) (wf N b j)).map .int))) ⟨o4, rfl, ex2, h2⟩ (fun _ _ _ _ _ => rfl) (fun j x σ A3 hx hi => ?_)
      obtain ⟨o4, rfl, ex3, h3⟩ := hi
      obtain ⟨hj, rfl⟩ := range_get hx
      obtain ⟨b1, b2⟩ := bit_int b j A3
      refine ⟨_, _, rfl, ?_⟩
      by_cases ht : b.testBit j = true
      · refine ⟨[some (.ref n), some (.int (N : Int)), some (.ref w), some (.int (b : Int)), some (.int (j : Int)), none, none, none], A3, ?_, _, rfl, ex3, ?_⟩
        · rw [ht] at b2
          simp only [bMG1, evSs_cons, evS_if, evE_cmp, evE_bin, evE_var, evE_lit, List.getElem?_cons_zero, List.getElem?_cons_succ, List.set_cons_zero, List.set_cons_succ, bind_ok, kBin_eq, b1, b2, kCmp_eq, kCmp2_eq, eq_int, if_true, tru_bl, out_ok, kIf_eq, evSs_nil, seq_next, kSs_eq]
          rfl
        · rw [h3]; exact lstF fun m _ => by rw [wf_step hj]; simp [ht]
      · have ht : b.testBit j = false := by simpa using ht
        have hlt := add_lt hb hj ht
        have p2 := Nat.two_pow_pos j
        have q1 := ix_ints h3 (i := b) (by rw [lF_len]; exact hb)
        have q2 := ix_ints h3 (i := b + 2 ^ j) (by rw [lF_len]; exact hlt)
        have q3 : ∀ v, aSet (.ref w) (.int ((b + 2 ^ j : Nat) : Int)) (.int v) A3 = _ := fun v => set_ints h3 (i := b + 2 ^ j) (by rw [lF_len]; exact hlt)
        rw [Int.natCast_add] at q2 q3
        refine ⟨[some (.ref n), some (.int (N : Int)), some (.ref w), some (.int (b : Int)), some (.int (j : Int)), none, none, none], A3.set w (.lst ((lF (2 ^ N) (wf N b (j + 1))).map .int)), ?_, _, rfl, ex3.set hw _, get_set (get_lt h3)⟩
        rw [ht] at b2
        have es : (lF (2 ^ N) (wf N b j)).set (b + 2 ^ j) ((lF (2 ^ N) (wf N b j)).getD (b + 2 ^ j) 0 + (lF (2 ^ N) (wf N b j)).getD b 0) = lF (2 ^ N) (wf N b (j + 1)) := by
          rw [lF_set, lF_get _ hlt, lF_get _ hb, wf_full hb (Nat.le_refl _)]
          refine lF_congr fun m _ => ?_
          rw [wf_step hj]
          by_cases e : m = b + 2 ^ j
          · subst e; simp [ht]
          · simp [e]
        rw [← es]
        simp only [bMG1, evSs_cons, evS_if, evE_cmp, evE_bin, evE_var, evE_lit, List.getElem?_cons_zero, List.getElem?_cons_succ, List.set_cons_zero, List.set_cons_succ, bind_ok, kBin_eq, b1, b2, kCmp_eq, kCmp2_eq, eq_int, if_true, tru_bl, out_ok, kIf_eq, evSs_nil, seq_next, kSs_eq, evS_augs, kAugs_eq, shx j hj, add_int, kAugs2_eq, mthTy_ref h3, q2, evE_ix, kIx_eq, kIx2_eq, q1, kAugs3_eq, augadd_int, kAugs4_eq, q3, Bool.false_eq_true, if_false, decide_true]
    obtain ⟨σ2, A3, i1, o4', rfl, ex3, h3⟩ := inner
    rw [range_len] at h3
    refine ⟨[some (.ref n), some (.int (N : Int)), some (.ref w), some (.int (b : Int)), o4', none, none, none], A3, by simp [i1], _, _, rfl, ex3, ?_⟩
    rw [h3]; exact lstF fun m _ => wf_next N b m
  obtain ⟨σ', A2, l1, o3, o4, rfl, ex2, hw2⟩ := loop1
  rw [range_len] at hw2
  have hw3 : A2[w]? = some (.lst ((lF (2 ^ N) fun m => fac (pc N m)).map .int)) := by
    rw [hw2]; exact lstF fun m hm => wf_full hm (Nat.le_of_lt hm)
  -- made
  have k0 := get_new A2 (.lst [.int 0])
  have m2 := mul_lst (k := N) k0 (by simp; exact Nat.le_of_lt (size_big (by omega))) (by omega)
  rw [zeros, rep_lF] at m2
  have w4 := get_app (get_app hw3 [AO.lst [.int 0]]) [AO.lst ((lF N fun _ => 0).map AV.int)]
  have s4 := get_new (A2 ++ [.lst [.int 0]]) (.lst ((lF N fun _ => 0).map AV.int))
  have ex4 := (ex2.app [AO.lst [.int 0]]).app [AO.lst ((lF N fun _ => 0).map AV.int)]
  have hs4 : A.length ≤ (A2 ++ [AO.lst [.int 0]]).length := by have := ex2.len; simp; omega
  have hws : w < (A2 ++ [AO.lst [.int 0]]).length := by have := get_lt hw3; simp; omega
  generalize (A2 ++ [AO.lst [AV.int 0]]).length = s at m2 s4 hs4 hws
  generalize hA4 : A2 ++ [AO.lst [AV.int 0]] ++ [AO.lst ((lF N fun _ => 0).map AV.int)] = A4 at m2 s4 w4 ex4
  have loop2 : ∃ σ' A', evS c (.for_ (.name 3) (.range1 (.bif .len [(.var 0)])) [.for_ (.name 4) (.range1 (.var 1)) bMG2]) [some (.ref n), some (.int (N : Int)), some (.ref w), o3, o4, some (.ref s), none, none] A4 = .next σ' A' ∧
      ∃ o3 o4 o6, σ' = [some (.ref n), some (.int (N : Int)), some (.ref w), o3, o4, some (.ref s), o6, none] ∧ Ex A A' ∧ A'[w]? = some (.lst ((lF (2 ^ N) fun m => fac (pc N m)).map .int)) ∧ A'[s]? = some (.lst ((lF N fun i => sm ((List.range (2 ^ N)).map fun (k : Nat) => AV.int (k : Int)).length fun m => trm (fun m => (G bk l m).2) N m i).map .int)) := by
    rw [forN (n := 2 ^ N) (by simpa using lenC A4 ex4) (by omega)]
    refine for_end (fun b σ A' => ∃ o3 o4 o6, σ = [some (.ref n), some (.int (N : Int)), some (.ref w), o3, o4, some (.ref s), o6, none] ∧ Ex A A' ∧ A'[w]? = some (.lst ((lF (2 ^ N) fun m => fac (pc N m)).map .int)) ∧ A'[s]? = some (.lst ((lF N fun i => sm b fun m => trm (fun m => (G bk l m).2) N m i).map .int))) ⟨o3, o4, none, rfl, ex4, w4, s4⟩ (fun _ _ _ _ _ => rfl) (fun b x σ A5 hx hi => ?_)
    obtain ⟨o3, o4, o6, rfl, ex5, hw5, hs5⟩ := hi
    obtain ⟨hb, rfl⟩ := range_get hx
    refine ⟨_, _, rfl, ?_⟩
    have inner : ∃ σ' A', evS c (.for_ (.name 4) (.range1 (.var 1)) bMG2) [some (.ref n), some (.int (N : Int)), some (.ref w), some (.int (b : Int)), o4, some (.ref s), o6, none] A5 = .next σ' A' ∧
        ∃ o4 o6, σ' = [some (.ref n), some (.int (N : Int)), some (.ref w), some (.int (b : Int)), o4, some (.ref s), o6, none] ∧ Ex A A' ∧ A'[w]? = some (.lst ((lF (2 ^ N) fun m => fac (pc N m)).map .int)) ∧
          A'[s]? = some (.lst ((lF N fun i => (sm b fun m => trm (fun m => (G bk l m).2) N m i) + if i < ((List.range N).map fun (k : Nat) => AV.int (k : Int)).length then trm (fun m => (G bk l m).2) N b i else 0).map .int)) := by
      rw [forN (n := N) (by simp) (by omega)]
      refine for_end (fun j σ A' => ∃ o4 o6, σ = [some (.ref n), some (.int (N : Int)), some (.ref w), some (.int (b : Int)), o4, some (.ref s), o6, none] ∧ Ex A A' ∧ A'[w]? = some (.lst ((lF (2 ^ N) fun m => fac (pc N m)).map .int)) ∧
          A'[s]? = some (.lst ((lF N fun i => (sm b fun m => trm (fun m => (G bk l m).2) N m i) + if i < j then trm (fun m => (G bk l m).2) N b i else 0).map .int))) ⟨o4, o6, rfl, ex5, hw5, by rw [hs5]; exact lstF fun i _ => by simp⟩ (fun _ _ _ _ _ => rfl) (fun j x σ A6 hx hi => ?_)
      obtain ⟨o4, o6, rfl, ex6, hw6, hs6⟩ := hi
      obtain ⟨hj, rfl⟩ := range_get hx
      obtain ⟨b1, b2⟩ := bit_int b j A6
      refine ⟨_, _, rfl, ?_⟩
      by_cases ht : b.testBit j = true
      · refine ⟨[some (.ref n), some (.int (N : Int)), some (.ref w), some (.int (b : Int)), some (.int (j : Int)), some (.ref s), o6, none], A6, ?_, _, _, rfl, ex6, hw6, ?_⟩
        · rw [ht] at b2
          simp only [bMG2, evSs_cons, evS_if, evE_cmp, evE_bin, evE_var, evE_lit, List.getElem?_cons_zero, List.getElem?_cons_succ, List.set_cons_zero, List.set_cons_succ, bind_ok, kBin_eq, b1, b2, kCmp_eq, kCmp2_eq, eq_int, if_true, tru_bl, out_ok, kIf_eq, evSs_nil, seq_next, kSs_eq]
          rfl
        · rw [hs6]; refine lstF fun i _ => ?_
          congr 1
          by_cases e : i = j
          · subst e; simp [trm, ht]
          · have : (i < j) ↔ (i < j + 1) := by omega
            simp only [this]
      · have ht : b.testBit j = false := by simpa using ht
        have hlt := add_lt hb hj ht
        have p2 := Nat.two_pow_pos j
        have hC6 := ex6.get hC
        have c1 := cost_get bk l hC6 (m := b + 2 ^ j) (by rw [hN]; exact hlt)
        have c2 := cost_get bk l hC6 (m := b) (by rw [hN]; exact hb)
        have q1 := ix_ints hw6 (i := b) (by rw [lF_len]; exact hb)
        have q2 := ix_ints hw6 (i := 2 ^ N - 1 - (b + 2 ^ j)) (by rw [lF_len]; omega)
        rw [lF_get _ hb] at q1
        rw [lF_get _ (by omega)] at q2
        have e2 : ((2 ^ N - 1 - (b + 2 ^ j) : Nat) : Int) = ((2 ^ N : Nat) : Int) - 1 - ((b : Int) + ((2 ^ j : Nat) : Int)) := by omega
        rw [e2] at q2
        rw [Int.natCast_add] at c1
        have q4 := ix_ints hs6 (i := j) (by rw [lF_len]; exact hj)
        have q3 : ∀ v, aSet (.ref s) (.int (j : Int)) (.int v) A6 = _ := fun v => set_ints hs6 (i := j) (by rw [lF_len]; exact hj)
        have u1 := fac_lt10 (n := pc N b) (by have := pc_le N b; omega)
        have u2 := fac_lt10 (n := pc N (2 ^ N - 1 - (b + 2 ^ j))) (by have := pc_le N (2 ^ N - 1 - (b + 2 ^ j)); omega)
        have v1 : aBin .mul (.int (fac (pc N b))) (.int (fac (pc N (2 ^ N - 1 - (b + 2 ^ j))))) A6 = _ := mul_r _ (by omega)
        have u3 : 0 < fac (pc N b) * fac (pc N (2 ^ N - 1 - (b + 2 ^ j))) := Int.mul_pos u1.1 u2.1
        have u4 : fac (pc N b) * fac (pc N (2 ^ N - 1 - (b + 2 ^ j))) ≤ 2 ^ 22 * 2 ^ 22 := Int.mul_le_mul u1.2 u2.2 (by omega) (by omega)
        have v2 : aBin .mul (.int (fac (pc N b) * fac (pc N (2 ^ N - 1 - (b + 2 ^ j))))) (.int ((G bk l (b + 2 ^ j)).2 - (G bk l b).2)) A6 = _ := mul_l _ (by omega)
        refine ⟨[some (.ref n), some (.int (N : Int)), some (.ref w), some (.int (b : Int)), some (.int (j : Int)), some (.ref s), some (.int ((b : Int) + ((2 ^ j : Nat) : Int))), none], A6.set s (.lst ((lF N fun i => (sm b fun m => trm (fun m => (G bk l m).2) N m i) + if i < j + 1 then trm (fun m => (G bk l m).2) N b i else 0).map .int)), ?_, _, _, rfl, ex6.set hs4 _, get_set_ne hw6 (by omega), get_set (get_lt hs6)⟩
        rw [ht] at b2
        have es : (lF N fun i => (sm b fun m => trm (fun m => (G bk l m).2) N m i) + if i < j then trm (fun m => (G bk l m).2) N b i else 0).set j ((lF N fun i => (sm b fun m => trm (fun m => (G bk l m).2) N m i) + if i < j then trm (fun m => (G bk l m).2) N b i else 0).getD j 0 + fac (pc N b) * fac (pc N (2 ^ N - 1 - (b + 2 ^ j))) * ((G bk l (b + 2 ^ j)).2 - (G bk l b).2)) =
            lF N fun i => (sm b fun m => trm (fun m => (G bk l m).2) N m i) + if i < j + 1 then trm (fun m => (G bk l m).2) N b i else 0 := by
          rw [lF_set, lF_get _ hj]
          refine lF_congr fun i _ => ?_
          by_cases e : i = j
          · subst e; simp [trm, ht]
          · have : (i < j) ↔ (i < j + 1) := by omega
            simp only [if_neg e, this]
        rw [← es]
        simp only [bMG2, evSs_cons, evS_if, evS_asg, evE_cmp, evE_bin, evE_bif, evEs_cons, evEs_nil, kCons_eq, kCons2_eq, evE_var, evE_lit, List.getElem?_cons_zero, List.getElem?_cons_succ, List.set_cons_zero, List.set_cons_succ, bind_ok, kBin_eq, b1, b2, kCmp_eq, kCmp2_eq, eq_int, if_true, tru_bl, out_ok, kIf_eq, evSs_nil, seq_next, kSs_eq, evS_augs, kAugs_eq, shx j hj, add_int, kAsg_eq, evTg_name, kAugs2_eq, mthTy_ref hs6, evE_ix, kIx_eq, kIx2_eq, q1, q2, q4, lenC A6 ex6, sub_int, v1, c1, c2, v2, kAugs3_eq, augadd_int, kAugs4_eq, q3, Bool.false_eq_true, if_false, decide_true]
    obtain ⟨σ2, A6, i1, o4', o6', rfl, ex6, hw6, hs6⟩ := inner
    rw [range_len] at hs6
    refine ⟨[some (.ref n), some (.int (N : Int)), some (.ref w), some (.int (b : Int)), o4', some (.ref s), o6', none], A6, by simp [i1], _, _, _, rfl, ex6, hw6, ?_⟩
    rw [hs6]; exact lstF fun i hi => by rw [if_pos hi]; rfl
  obtain ⟨σ', A', l2, o3', o4', o6', rfl, ex, hw', hs'⟩ := loop2
  rw [range_len] at hs'
  have hs2 : A'[s]? = some (.lst ((lF N fun i => mar l.length (shw l.length) (fun m => (G bk l m).2) i).map .int)) := by
    rw [hs']; refine lstF fun i hi => ?_
    have := groups_mar (n := N) hi (fun m => (G bk l m).2)
    rw [hN]; exact this
  have p3 := fac_lt (n := l.length) (by omega)
  have wl := ix_ints hw' (i := 2 ^ N - 1) (by rw [lF_len]; omega)
  rw [lF_get _ (by omega), pc_all] at wl
  have e3 : ((2 ^ N - 1 : Nat) : Int) = ((2 ^ N : Nat) : Int) - 1 := by omega
  rw [e3] at wl
  have ln : ∀ x, evE c (.ix (.var 2) (.bin .sub (.bif .len [(.var 0)]) (.lit (.int 1)))) (([some (.ref n), some (.int (N : Int)), some (.ref w), o3', o4', some (.ref s), o6', none].set 7 none).set 7 x) A' = .ok (.int (fac l.length)) A' := fun x => by
    rw [hN]
    simp only [evE_ix, evE_var, List.set_cons_zero, List.set_cons_succ, List.getElem?_cons_zero, List.getElem?_cons_succ, bind_ok, kIx_eq, evE_bin, evE_bif, evEs_cons, evEs_nil, kCons_eq, kCons2_eq, lenC A' ex, kBin_eq, evE_lit, sub_int, kIx2_eq, wl]
  have fin := amts c am (n := N) (own := 7) (v := 5) (i7 := 7) (σ := [some (.ref n), some (.int (N : Int)), some (.ref w), o3', o4', some (.ref s), o6', none]) (A := A') (r := s) (q := .ix (.var 2) (.bin .sub (.bif .len [(.var 0)]) (.lit (.int 1)))) (by omega) rfl hs2 (by simp) (by decide) p3.1 (by omega) ln
  refine ⟨A', ?_, ex⟩
  have due : (dueL bk l).map pairV = (List.range N).map fun i => pairV (red (mar l.length (shw l.length) (fun m => (G bk l m).2) i) (fac l.length)) := by
    unfold dueL; rw [List.map_map, hN]; rfl
  rw [due]
  have ln0 := lenC (A ++ [AO.lst [AV.int 1]] ++ [AO.lst [AV.int 0]]) (((Ex.refl A).app _).app _)
  have e4 : aBin .sub (.int ((2 ^ N : Nat) : Int)) (.int 1) (A ++ [AO.lst [AV.int 1]] ++ [AO.lst [AV.int 0]]) = .ok (.int ((2 ^ N - 1 : Nat) : Int)) (A ++ [AO.lst [AV.int 1]] ++ [AO.lst [AV.int 0]]) := by rw [sub_int, e3]
  have st1 : evS c (.asg (.name 2) (.bin .add (.new (.disp [(.lit (.int 1))])) (.bin .mul (.new (.disp [(.lit (.int 0))])) (.bin .sub (.bif .len [(.var 0)]) (.lit (.int 1)))))) [some (.ref n), some (.int (N : Int)), none, none, none, none, none, none] A = .next [some (.ref n), some (.int (N : Int)), some (.ref w), none, none, none, none, none] A1 := by
    simp only [evS_asg, evE_bin, evE_new, evL_disp, evEs_cons, evE_lit, bind_ok, kCons_eq, evEs_nil, kCons2_eq, kDisp_eq, List.length_cons, List.length_nil, Nat.zero_add, z1, if_true, kNew_eq, kBin_eq, evE_bif, evE_var, List.getElem?_cons_zero, ln0, e4, m1, a1, out_ok, kAsg_eq, evTg_name, List.set_cons_zero, List.set_cons_succ]
  have st3 : evS c (.asg (.name 5) (.bin .mul (.new (.disp [(.lit (.int 0))])) (.var 1))) [some (.ref n), some (.int (N : Int)), some (.ref w), o3, o4, none, none, none] A2 = .next [some (.ref n), some (.int (N : Int)), some (.ref w), o3, o4, some (.ref s), none, none] A4 := by
    simp only [evS_asg, evE_bin, evE_new, evL_disp, evEs_cons, evE_lit, bind_ok, kCons_eq, evEs_nil, kCons2_eq, kDisp_eq, List.length_cons, List.length_nil, Nat.zero_add, z1, if_true, kNew_eq, kBin_eq, evE_var, List.getElem?_cons_zero, List.getElem?_cons_succ, m2, out_ok, kAsg_eq, evTg_name, List.set_cons_zero, List.set_cons_succ]
  simp only [bMeanG, evSs_cons, st1, seq_next, kSs_eq, l1, st3, l2, evS_ret, evE_lf, fin, bind_ok, aLF, out_ok, seq_ret, fin_ret]
end
end Ev


set_option linter.all false
set_option maxRecDepth 100000
set_option maxHeartbeats 8000000
namespace Ev
open PySem L2 Sh

/-! ### more drawing: rows, lane books, shuffles -/
def bLane : List S := [.asg (.name 5) (.new (.disp [])),
    .asg (.name 6) (.new (.comp [7] (.range1 (.var 1)) (.name 7) (.lit (.bl true)) (.call "_law_draw" [(.var 0), (.var 2)] []))),
    .for_ (.name 8) (.range1 (.var 2)) [.asg (.name 9) (.new (.comp [7] (.range1 (.var 1)) (.name 7) (.lit (.bl true)) (.tup [(.bin .mod (.bif .int_ [(.bin .add (.var 8) (.ix (.var 6) (.var 7)))]) (.var 2)), (.bin .add (.var 3) (.call "_law_draw" [(.var 0), (.bin .add (.bin .sub (.var 4) (.var 3)) (.lit (.int 1)))] []))]))),
      .expr (.mth .append (.var 5) [(.bif .tupof [(.var 9)])])],
    .ret (.bif .tupof [(.var 5)])]
def bRow : List S := [.ret (.lf .tup (.comp [3] (.range1 (.var 2)) (.name 3) (.lit (.bl true)) (.call "_law_draw" [(.var 0), (.var 1)] [])))]
def bShuf : List S := [.asg (.name 2) (.bif .listof [(.var 1)]),
    .asg (.name 3) (.new (.disp [])),
    .for_ (.name 4) (.range1 (.bif .len [(.var 2)])) [.expr (.mth .append (.var 3) [(.mth .pop1 (.var 2) [(.call "_law_draw" [(.var 0), (.bif .len [(.var 2)])] [])])])],
    .ret (.var 3)]
/-- draws, one behind the other -/
theorem ldraws (c : Cfg) (D : drawIs c) {A : AH} {d n : Nat} {many : Int} {e : E} {σ : Sl} {i vd vm : Nat} (h : Dr A d) (hn : n ≤ 1000) (h0 : 0 < many) (h1 : many < 2 ^ 64) (he : evE c e σ A = .ok (.int n) A) (hd : σ[vd]? = some (some (.ref d))) (hm : σ[vm]? = some (some (.int many))) (nd : vd ≠ i) (nm : vm ≠ i) :
    ∃ (row : List Int) (A' : AH), evL c (.comp [i] (.range1 e) (.name i) (.lit (.bl true)) (.call "_law_draw" [(.var vd), (.var vm)] [])) σ A = .ok (row.map .int) A' ∧ Fr d A A' ∧ row.length = n ∧ ∀ x ∈ row, 0 ≤ x ∧ x < many := by
  rw [compN (n := n) (A' := A) he (by omega)]
  obtain ⟨acc, A', h2, F, row, rfl, h3, h4⟩ := comp_run (chk := (Itm.val ((List.range n).map fun (k : Nat) => AV.int k)).chk) (tg := fun x A => evTg c (.name i) x (wipeS σ [i]) A) (q := fun σ A => (evE c (.lit (.bl true)) σ A).bind tru)
    (elt := fun σ A => evE c (.call "_law_draw" [(.var vd), (.var vm)] []) σ A) (xs := (List.range n).map fun (k : Nat) => AV.int k) (A := A) (fun i acc A' => Fr d A A' ∧ ∃ row : List Int, acc = row.map .int ∧ row.length = i ∧ ∀ x ∈ row, 0 ≤ x ∧ x < many) ⟨Fr.refl h, [], rfl, rfl, fun x hx => (by cases hx)⟩
    (by rw [range_len]; exact Nat.le_of_lt (size_big (by omega))) (fun i acc A' _ ⟨_, r, e, hl, _⟩ => ⟨rfl, by rw [e, List.length_map, hl]; exact Nat.le_refl _⟩) (fun j x acc A1 hx ⟨F, r, e, hl, hr⟩ => by
      obtain ⟨v, A2, e1, p1, p2, F2⟩ := D A1 d many F.dr h0 h1
      refine ⟨_, _, true, A1, rfl, rfl, ?_⟩
      rw [if_pos rfl]
      refine ⟨.int v, A2, ?_, F.trans F2, r ++ [v], by rw [e]; simp, by simp [hl], fun y hy => ?_⟩
      · have q1 : ((wipeS σ [i]).set i (some x))[vd]? = some (some (.ref d)) := by
          rw [List.getElem?_set_ne (Ne.symm nd)]; show (σ.set i none)[vd]? = _; rw [List.getElem?_set_ne (Ne.symm nd)]; exact hd
        have q2 : ((wipeS σ [i]).set i (some x))[vm]? = some (some (.int many)) := by
          rw [List.getElem?_set_ne (Ne.symm nm)]; show (σ.set i none)[vm]? = _; rw [List.getElem?_set_ne (Ne.symm nm)]; exact hm
        simp only [evE_call, evEs_cons, evE_var, q1, q2, bind_ok, kCons_eq, evEs_nil, kCons2_eq, kCall_eq, List.append_nil, e1]
      · rcases List.mem_append.mp hy with hy | hy
        · exact hr y hy
        · rw [List.mem_singleton.mp hy]; exact ⟨p1, p2⟩)
  rw [range_len] at h3
  exact ⟨row, A', h2, F, h3, h4⟩
theorem lrow_ev (c : Cfg) (D : drawIs c) {A : AH} {d n : Nat} {kinds : Nat} (h : Dr A d) (hn : n ≤ 1000) (h0 : 0 < kinds) (h1 : kinds ≤ 1000) : ∃ row A', (evSs c bRow [some (.ref d), some (.int kinds), some (.int n), none] A).fin = .ok (rowI row) A' ∧ Fr d A A' ∧ row.length = n ∧ inB row kinds := by
  obtain ⟨row, A', e, F, hl, hr⟩ := ldraws c D (A := A) (d := d) (n := n) (many := kinds) (e := .var 2) (σ := [some (.ref d), some (.int kinds), some (.int n), none]) (i := 3) (vd := 0) (vm := 1) h hn (by omega) (by omega) rfl rfl rfl (by decide) (by decide)
  exact ⟨row, A', by simp [bRow, e, aLF, rowI], F, hl, hr⟩
theorem lcrow_ev (c : Cfg) (D : drawIs c) {A : AH} {d kinds states : Nat} {low high : Int} {s8 : Nat} {n6 : Nat} {mv : List Int} {o5 o7 o9 : Option AV} (h : Dr A d) (hk : kinds ≤ 1000) (hs0 : 0 < states) (hs : states ≤ 1000) (hlh : low ≤ high) (hb : high - low < 2 ^ 40) (h6 : A[n6]? = some (.lst (mv.map .int))) (hl6 : mv.length = kinds) (hd6 : n6 ≠ d) :
    ∃ (r : List (Int × Int)) (A' : AH), evL c (.comp [7] (.range1 (.var 1)) (.name 7) (.lit (.bl true)) (.tup [(.bin .mod (.bif .int_ [(.bin .add (.var 8) (.ix (.var 6) (.var 7)))]) (.var 2)), (.bin .add (.var 3) (.call "_law_draw" [(.var 0), (.bin .add (.bin .sub (.var 4) (.var 3)) (.lit (.int 1)))] []))]))
      [some (.ref d), some (.int kinds), some (.int states), some (.int low), some (.int high), o5, some (.ref n6), o7, some (.int (s8 : Int)), o9] A = .ok (r.map pairV) A' ∧ Fr d A A' ∧ r.length = kinds ∧ ∀ p ∈ r, 0 ≤ p.1 ∧ p.1 < states ∧ low ≤ p.2 ∧ p.2 ≤ high := by
  rw [compN (n := kinds) (A' := A) (by simp) (by omega)]
  obtain ⟨acc, A', h1, F, r, h2, h3, h4⟩ := comp_run (chk := (Itm.val ((List.range kinds).map fun (k : Nat) => AV.int k)).chk)
    (tg := fun x A => evTg c (.name 7) x (wipeS [some (.ref d), some (.int kinds), some (.int states), some (.int low), some (.int high), o5, some (.ref n6), o7, some (.int (s8 : Int)), o9] [7]) A) (q := fun σ A => (evE c (.lit (.bl true)) σ A).bind tru)
    (elt := fun σ A => evE c (.tup [(.bin .mod (.bif .int_ [(.bin .add (.var 8) (.ix (.var 6) (.var 7)))]) (.var 2)), (.bin .add (.var 3) (.call "_law_draw" [(.var 0), (.bin .add (.bin .sub (.var 4) (.var 3)) (.lit (.int 1)))] []))]) σ A)
    (xs := (List.range kinds).map fun (k : Nat) => AV.int k) (A := A)
    (fun i acc A' => Fr d A A' ∧ ∃ r : List (Int × Int), acc = r.map pairV ∧ r.length = i ∧ ∀ p ∈ r, 0 ≤ p.1 ∧ p.1 < states ∧ low ≤ p.2 ∧ p.2 ≤ high)
    ⟨Fr.refl h, [], rfl, rfl, fun p hp => by cases hp⟩ (by rw [range_len]; exact Nat.le_of_lt (size_big (by omega)))
    (fun i acc A' _ ⟨_, r, e, hl, _⟩ => ⟨rfl, by rw [e, List.length_map, hl]; exact Nat.le_refl _⟩)
    (fun i x acc A1 hx ⟨F, r, e, hl, hr⟩ => by
      obtain ⟨hi, rfl⟩ := range_get hx
      obtain ⟨u, A3, e2, q1, q2, F3⟩ := D A1 d (high - low + 1) F.dr (by omega) (by omega)
      have g6 : A1[n6]? = some (.lst (mv.map .int)) := by rw [F.old n6 (get_lt h6) hd6]; exact h6
      have g := ix_ints g6 (i := i) (by omega)
      have md : aBin .mod (.int ((s8 : Int) + mv.getD i 0)) (.int (states : Int)) A1 = _ := mod_int _ (by omega)
      refine ⟨_, _, true, A1, rfl, rfl, ?_⟩
      rw [if_pos rfl]
      refine ⟨.tup [.int (((s8 : Int) + mv.getD i 0) % states), .int (low + u)], A3, by simp [wipeS, -List.getD_eq_getElem?_getD, g, md, e2, two_le'], F.trans F3, r ++ [(((s8 : Int) + mv.getD i 0) % states, low + u)], by rw [e]; simp [pairV], by simp [hl], fun p hp => ?_⟩
      rcases List.mem_append.mp hp with hp | hp
      · exact hr p hp
      · rw [List.mem_singleton.mp hp]
        exact ⟨Int.emod_nonneg _ (by omega), Int.emod_lt_of_pos _ (by omega), by show low ≤ low + u; omega, by show low + u ≤ high; omega⟩)
  rw [range_len] at h3
  exact ⟨r, A', by rw [← h2]; exact h1, F, h3, h4⟩
theorem lane_ev (c : Cfg) (D : drawIs c) {A : AH} {d kinds states : Nat} {low high : Int} (h : Dr A d) (hk : kinds ≤ 1000) (hs0 : 0 < states) (hs : states ≤ 1000) (hlh : low ≤ high) (hb : high - low < 2 ^ 40) :
    ∃ bk A', (evSs c bLane [some (.ref d), some (.int kinds), some (.int states), some (.int low), some (.int high), none, none, none, none, none] A).fin = .ok (bookV bk) A' ∧ BkOk bk kinds states low high ∧ Fr d A A' := by
  have hd := h.lt
  have F0 : Fr d A (A ++ [.lst []]) := Fr.app h _
  obtain ⟨mv, A1, e1, F1, hl1, _⟩ := ldraws c D (A := A ++ [.lst []]) (d := d) (n := kinds) (many := states) (e := .var 1) (σ := [some (.ref d), some (.int kinds), some (.int states), some (.int low), some (.int high), some (.ref A.length), none, none, none, none]) (i := 7) (vd := 0) (vm := 2) F0.dr hk (by omega) (by omega) rfl rfl rfl (by decide) (by decide)
  have hA1 : A1[A.length]? = some (.lst []) := by rw [F1.old A.length (by simp) (by omega)]; exact get_new _ _
  have hA1l := get_lt hA1
  have F2 : Fr d A (A1 ++ [.lst (mv.map .int)]) := (F0.trans F1).trans (Fr.app F1.dr _)
  have h5 := get_app hA1 [AO.lst (mv.map AV.int)]
  have h6 := get_new A1 (.lst (mv.map .int))
  have loop : ∃ σ' A', evS c (.for_ (.name 8) (.range1 (.var 2)) [.asg (.name 9) (.new (.comp [7] (.range1 (.var 1)) (.name 7) (.lit (.bl true)) (.tup [(.bin .mod (.bif .int_ [(.bin .add (.var 8) (.ix (.var 6) (.var 7)))]) (.var 2)), (.bin .add (.var 3) (.call "_law_draw" [(.var 0), (.bin .add (.bin .sub (.var 4) (.var 3)) (.lit (.int 1)))] []))]))),
      .expr (.mth .append (.var 5) [(.bif .tupof [(.var 9)])])]) [some (.ref d), some (.int kinds), some (.int states), some (.int low), some (.int high), some (.ref A.length), some (.ref A1.length), none, none, none] (A1 ++ [.lst (mv.map .int)]) = .next σ' A' ∧
      ∃ (bk : List (List (Int × Int))) (o7 o8 o9 : Option AV), σ' = [some (.ref d), some (.int kinds), some (.int states), some (.int low), some (.int high), some (.ref A.length), some (.ref A1.length), o7, o8, o9] ∧ Fr d A A' ∧ A'[A.length]? = some (.lst (bk.map rowV)) ∧ A'[A1.length]? = some (.lst (mv.map .int)) ∧ bk.length = ((List.range states).map fun (k : Nat) => AV.int k).length ∧
        ∀ r ∈ bk, r.length = kinds ∧ ∀ p ∈ r, 0 ≤ p.1 ∧ p.1 < states ∧ low ≤ p.2 ∧ p.2 ≤ high := by
    rw [forN (n := states) (by simp) (by omega)]
    refine for_end (fun i σ' A' => ∃ (bk : List (List (Int × Int))) (o7 o8 o9 : Option AV), σ' = [some (.ref d), some (.int kinds), some (.int states), some (.int low), some (.int high), some (.ref A.length), some (.ref A1.length), o7, o8, o9] ∧ Fr d A A' ∧ A'[A.length]? = some (.lst (bk.map rowV)) ∧ A'[A1.length]? = some (.lst (mv.map .int)) ∧ bk.length = i ∧
        ∀ r ∈ bk, r.length = kinds ∧ ∀ p ∈ r, 0 ≤ p.1 ∧ p.1 < states ∧ low ≤ p.2 ∧ p.2 ≤ high)
      ⟨[], none, none, none, rfl, F2, h5, h6, rfl, fun r hr => by cases hr⟩ (fun _ _ _ _ _ => rfl) (fun i x σ A2 hx ⟨bk, o7, o8, o9, e, F, hA, hM, hl, hr⟩ => by
        subst e
        obtain ⟨hi, rfl⟩ := range_get hx
        refine ⟨_, _, rfl, ?_⟩
        obtain ⟨r, A3, e1, F3, hr1, hr2⟩ := lcrow_ev c D (s8 := i) (n6 := A1.length) (mv := mv) (o5 := some (.ref A.length)) (o7 := o7) (o9 := o9) F.dr hk hs0 hs hlh hb hM hl1 (by omega)
        have hAl : A.length < A2.length := get_lt hA
        have hA3 : A3[A.length]? = some (.lst (bk.map rowV)) := by rw [F3.old _ hAl (by omega)]; exact hA
        have hM3 : A3[A1.length]? = some (.lst (mv.map .int)) := by rw [F3.old _ (get_lt hM) (by omega)]; exact hM
        have hA3l : A.length < A3.length := get_lt hA3
        have F4 : Fr d A (A3 ++ [.lst (r.map pairV)]) := (F.trans F3).trans (Fr.app F3.dr _)
        have hA4 := get_app hA3 [AO.lst (r.map pairV)]
        have hM4 := get_app hM3 [AO.lst (r.map pairV)]
        have hn := get_new A3 (.lst (r.map pairV))
        have hz : (bk.map rowV).length < sizeLine := by rw [List.length_map]; exact size_big (by omega)
        refine ⟨[some (.ref d), some (.int kinds), some (.int states), some (.int low), some (.int high), some (.ref A.length), some (.ref A1.length), o7, some (.int i), some (.ref A3.length)], (A3 ++ [AO.lst (r.map pairV)]).set A.length (.lst (bk.map rowV ++ [.tup (r.map pairV)])), ?_, bk ++ [r], _, _, _, rfl, F4.setNew hd (Nat.le_refl _) _, ?_, get_set_ne hM4 (by omega), by simp [hl], fun r' hr' => ?_⟩
        · simp [e1, mthTy_ref hA4, tupof_seq (seq_ref hn), append_ref hA4 hz]
        · rw [get_set (by simp; omega)]; simp [rowV]
        · rcases List.mem_append.mp hr' with h | h
          · exact hr r' h
          · rw [List.mem_singleton.mp h]
            exact ⟨hr1, hr2⟩)
  obtain ⟨σ', A', l1, bk, o7, o8, o9, rfl, F, hA, _, hl, hr⟩ := loop
  rw [range_len] at hl
  refine ⟨bk, A', ?_, ⟨hl, hr⟩, F⟩
  simp [bLane, e1, l1, tupof_seq (seq_ref hA), bookV]
/-- a shuffled row: as long, of the same members -/
theorem shuf_ev (c : Cfg) (D : drawIs c) {A : AH} {d : Nat} {rv : AV} {xs : List AV} (h : Dr A d) (hr : seqOf A rv = some xs) (hz : xs.length ≤ 1000) : ∃ A' n ys, (evSs c bShuf [some (.ref d), some rv, none, none, none] A).fin = .ok (.ref n) A' ∧ Fr d A A' ∧ A.length ≤ n ∧ A'[n]? = some (.lst ys) ∧ ys.length = xs.length ∧ ∀ y ∈ ys, y ∈ xs := by
  have hd := h.lt
  have F0 : Fr d A (A ++ [.lst xs] ++ [.lst []]) := (Fr.app h _).trans (Fr.app (Fr.app h _).dr _)
  have lo : aBif .listof [rv] A = .ok (.ref A.length) (A ++ [.lst xs]) := by simp only [aBif, hr]
  have g2 := get_app (get_new A (.lst xs)) [AO.lst []]
  have g3 := get_new (A ++ [AO.lst xs]) (.lst [])
  rw [List.length_append, List.length_singleton] at g3
  have loop : ∃ σ' A', evS c (.for_ (.name 4) (.range1 (.bif .len [(.var 2)])) [.expr (.mth .append (.var 3) [(.mth .pop1 (.var 2) [(.call "_law_draw" [(.var 0), (.bif .len [(.var 2)])] [])])])]) [some (.ref d), some rv, some (.ref A.length), some (.ref (A.length + 1)), none] (A ++ [.lst xs] ++ [.lst []]) = .next σ' A' ∧
      ∃ o4 zs ys, σ' = [some (.ref d), some rv, some (.ref A.length), some (.ref (A.length + 1)), o4] ∧ Fr d A A' ∧ A'[A.length]? = some (.lst zs) ∧ A'[A.length + 1]? = some (.lst ys) ∧ zs.length + ys.length = xs.length ∧ ys.length = ((List.range xs.length).map fun (k : Nat) => AV.int k).length ∧ (∀ y ∈ zs, y ∈ xs) ∧ ∀ y ∈ ys, y ∈ xs := by
    rw [forN (n := xs.length) (by have := len_ref g2; simp [-List.append_assoc, this]) (by omega)]
    refine for_end (fun i σ A' => ∃ o4 zs ys, σ = [some (.ref d), some rv, some (.ref A.length), some (.ref (A.length + 1)), o4] ∧ Fr d A A' ∧ A'[A.length]? = some (.lst zs) ∧ A'[A.length + 1]? = some (.lst ys) ∧ zs.length + ys.length = xs.length ∧ ys.length = i ∧ (∀ y ∈ zs, y ∈ xs) ∧ ∀ y ∈ ys, y ∈ xs)
      ⟨none, xs, [], rfl, F0, g2, g3, by simp, rfl, fun y hy => hy, fun y hy => (by cases hy)⟩ (fun _ _ _ _ _ => rfl) (fun i x σ A1 hx hi => ?_)
    obtain ⟨o4, zs, ys, rfl, F, h2, h3, hl, hy, hzs, hys⟩ := hi
    obtain ⟨hi, rfl⟩ := range_get hx
    refine ⟨_, _, rfl, ?_⟩
    obtain ⟨v, A2, e, p1, p2, F2⟩ := D A1 d zs.length F.dr (by omega) (by omega)
    have h2' : A2[A.length]? = some (.lst zs) := by rw [F2.old _ (get_lt h2) (by omega)]; exact h2
    have h3' : A2[A.length + 1]? = some (.lst ys) := by rw [F2.old _ (get_lt h3) (by omega)]; exact h3
    have sx := seqIndex_of (k := v) (n := zs.length) p1 p2
    have vl : v.toNat < zs.length := by omega
    have pop : aMth .pop1 (.ref A.length) [.int v] A2 = .ok zs[v.toNat] (A2.set A.length (.lst (zs.eraseIdx v.toNat))) := by
      have c1 : -(2 ^ 63) ≤ v ∧ v < 2 ^ 63 := by omega
      simp only [aMth, h2', if_pos c1, sx, List.getElem?_eq_getElem vl]
    have h3'' := get_set_ne (n := A.length) (o := .lst (zs.eraseIdx v.toNat)) h3' (by omega)
    have h2'' := get_set (n := A.length) (o := .lst (zs.eraseIdx v.toNat)) (get_lt h2')
    have ap := append_ref (x := zs[v.toNat]) h3'' (size_big (by omega))
    have t1 : mthTy .pop1 (.ref A.length) A1 = true := by simp only [mthTy, h2]; rfl
    refine ⟨[some (.ref d), some rv, some (.ref A.length), some (.ref (A.length + 1)), some (.int (i : Int))], _, ?_, _, zs.eraseIdx v.toNat, ys ++ [zs[v.toNat]], rfl, ((F.trans F2).setNew hd (Nat.le_refl _) (.lst (zs.eraseIdx v.toNat))).setNew hd (n := A.length + 1) (by omega) (.lst (ys ++ [zs[v.toNat]])), get_set_ne h2'' (by omega), get_set (by simp; exact get_lt h3'), ?_, by simp [hy], fun y hm => hzs y (List.mem_of_mem_eraseIdx hm), fun y hm => ?_⟩
    · simp [mthTy_ref h3, t1, len_ref h2, e, pop, ap]
    · rw [List.length_eraseIdx, if_pos vl]; simp; omega
    · rcases List.mem_append.mp hm with hm | hm
      · exact hys y hm
      · rw [List.mem_singleton.mp hm]; exact hzs _ (List.getElem_mem vl)
  obtain ⟨σ', A', h1, o4, zs, ys, rfl, F, h2, h3, hl, hy, _, hys⟩ := loop
  rw [range_len] at hy
  refine ⟨A', A.length + 1, ys, ?_, F, by omega, h3, hy, hys⟩
  simp only [List.append_assoc, List.cons_append, List.nil_append] at h1
  simp [bShuf, lo, h1]
end Ev


set_option linter.all false
set_option maxRecDepth 100000
set_option maxHeartbeats 4000000
namespace Sh
open Ev PySem L2

/-! ### parts of a group -/
def sub (n p k : Nat) : Bool := (List.range n).all fun i => !p.testBit i || k.testBit i
theorem sub_iff {n p k : Nat} : sub n p k = true ↔ ∀ i, i < n → p.testBit i = true → k.testBit i = true := by
  unfold sub
  rw [List.all_eq_true]
  constructor
  · intro h i hi hp
    have := h i (List.mem_range.mpr hi)
    rw [hp] at this; simpa using this
  · intro h i hi
    cases hp : p.testBit i with
    | false => rfl
    | true => rw [h i (List.mem_range.mp hi) hp]; rfl
theorem sub_succ {n p k : Nat} : sub (n + 1) p k = (sub n p k && (!p.testBit n || k.testBit n)) := by
  unfold sub; rw [List.range_succ, List.all_append]; simp
theorem sub_congr {n p p' k k' : Nat} (h : ∀ i, i < n → p.testBit i = p'.testBit i ∧ k.testBit i = k'.testBit i) : sub n p k = sub n p' k' := by
  unfold sub
  rw [Bool.eq_iff_iff, List.all_eq_true, List.all_eq_true]
  constructor <;> intro q i hi <;> have := q i hi <;> have e := h i (List.mem_range.mp hi)
  · rw [← e.1, ← e.2]; exact this
  · rw [e.1, e.2]; exact this
theorem sub_refl (n p : Nat) : sub n p p = true := sub_iff.mpr fun _ _ h => h
theorem sub_zero (n k : Nat) : sub n 0 k = true := sub_iff.mpr fun i _ h => by rw [Nat.zero_testBit] at h; cases h
/-- the sum over the parts of k -/
def sums (n : Nat) (f : Nat → Int) (k : Nat) : Int := sm (2 ^ n) fun p => if sub n p k then f p else 0
theorem sums_lo {n k : Nat} (f : Nat → Int) (h : k < 2 ^ n) : sums (n + 1) f k = sums n f k := by
  unfold sums
  rw [Nat.pow_succ, Nat.mul_two, sm_add]
  have z : sm (2 ^ n) (fun p => if sub (n + 1) (2 ^ n + p) k then f (2 ^ n + p) else 0) = 0 := (sm_congr fun p hp => by
    rw [sub_succ, Nat.testBit_two_pow_add_eq, tb_hi hp (Nat.le_refl _), tb_hi h (Nat.le_refl _)]; simp).trans (sm_zero _)
  rw [z, Int.add_zero]
  exact sm_congr fun p hp => by rw [sub_succ, tb_hi hp (Nat.le_refl _)]; simp
theorem sums_hi {n k : Nat} (f : Nat → Int) (h : k < 2 ^ n) : sums (n + 1) f (2 ^ n + k) = sums n f k + sums n (fun p => f (2 ^ n + p)) k := by
  unfold sums
  rw [Nat.pow_succ, Nat.mul_two, sm_add]
  congr 1
  · refine sm_congr fun p hp => ?_
    rw [sub_succ, tb_hi hp (Nat.le_refl _), sub_congr (p' := p) (k' := k) fun i hi => ⟨rfl, tb_two hi⟩]; simp
  · refine sm_congr fun p hp => ?_
    rw [sub_succ, Nat.testBit_two_pow_add_eq, Nat.testBit_two_pow_add_eq, tb_hi hp (Nat.le_refl _), tb_hi h (Nat.le_refl _), sub_congr (p' := p) (k' := k) fun i hi => ⟨tb_two hi, tb_two hi⟩]; simp
/-! ### dividends -/
def DV (C : Nat → Int) : Nat → Nat → Int
  | 0, m => C m | j + 1, m => DV C j m - if m.testBit j then DV C j (m - 2 ^ j) else 0
theorem DV_lo {C : Nat → Int} {n p : Nat} (h : p < 2 ^ n) : DV C (n + 1) p = DV C n p := by
  show DV C n p - (if p.testBit n then _ else 0) = _
  rw [tb_hi h (Nat.le_refl _)]; simp
theorem DV_shift (C : Nat → Int) (n : Nat) : ∀ (j p : Nat), j ≤ n → p < 2 ^ n → DV C j (2 ^ n + p) = DV (fun q => C (2 ^ n + q)) j p
  | 0, _, _, _ => rfl
  | j + 1, p, hj, hp => by
    show DV C j (2 ^ n + p) - (if (2 ^ n + p).testBit j then DV C j (2 ^ n + p - 2 ^ j) else 0) = DV _ j p - (if p.testBit j then DV _ j (p - 2 ^ j) else 0)
    rw [tb_two hj, DV_shift C n j p (by omega) hp]
    cases hb : p.testBit j with
    | false => rfl
    | true =>
      have := tb_ge hb
      rw [if_pos rfl, if_pos rfl, Nat.add_sub_assoc this, DV_shift C n j (p - 2 ^ j) (by omega) (Nat.lt_of_le_of_lt (Nat.sub_le ..) hp)]
theorem DV_hi {C : Nat → Int} {n p : Nat} (h : p < 2 ^ n) : DV C (n + 1) (2 ^ n + p) = DV (fun q => C (2 ^ n + q)) n p - DV C n p := by
  show DV C n (2 ^ n + p) - (if (2 ^ n + p).testBit n then DV C n (2 ^ n + p - 2 ^ n) else 0) = _
  rw [Nat.testBit_two_pow_add_eq, tb_hi h (Nat.le_refl _), DV_shift C n n p (Nat.le_refl _) h, Nat.add_sub_cancel_left]; simp
theorem sums_sub (n : Nat) (f g : Nat → Int) (k : Nat) : sums n (fun p => f p - g p) k = sums n f k - sums n g k := by
  unfold sums
  rw [← sm_sub]
  exact sm_congr fun p _ => by split <;> simp
theorem sums_congr {n k : Nat} {f g : Nat → Int} (h : ∀ p, p < 2 ^ n → f p = g p) : sums n f k = sums n g k := sm_congr fun p hp => by rw [h p hp]
/-- the dividends of the parts add up -/
theorem zeta : ∀ (n : Nat) (C : Nat → Int) (k : Nat), k < 2 ^ n → sums n (DV C n) k = C k
  | 0, C, k, h => by
    have h : k < 1 := h
    obtain rfl : k = 0 := by omega
    show (0 : Int) + C 0 = C 0; omega
  | n + 1, C, k, h => by
    by_cases hk : k < 2 ^ n
    · rw [sums_lo _ hk, sums_congr fun p hp => DV_lo hp, zeta n C k hk]
    · obtain ⟨k', rfl⟩ : ∃ k', k = 2 ^ n + k' := ⟨k - 2 ^ n, by omega⟩
      have hk' : k' < 2 ^ n := by rw [Nat.pow_succ] at h; omega
      rw [sums_hi _ hk', sums_congr fun p hp => DV_lo hp, zeta n C k' hk', sums_congr (f := fun p => DV C (n + 1) (2 ^ n + p)) fun p hp => DV_hi hp, sums_sub, zeta n _ k' hk', zeta n C k' hk']; omega
/-- and that tells them -/
theorem zeta_uniq {n : Nat} {f g : Nat → Int} (h : ∀ k, k < 2 ^ n → sums n f k = sums n g k) : ∀ k, k < 2 ^ n → f k = g k := by
  induction n generalizing f g with
  | zero =>
    intro k hk
    have hk : k < 1 := hk
    obtain rfl : k = 0 := by omega
    have : (0 : Int) + f 0 = 0 + g 0 := h 0 (by decide)
    omega
  | succ n ih =>
    have lo : ∀ k, k < 2 ^ n → f k = g k := ih fun k hk => by
      have := h k (by rw [Nat.pow_succ]; omega)
      rw [sums_lo _ hk, sums_lo _ hk] at this; exact this
    intro k hk
    by_cases hl : k < 2 ^ n
    · exact lo k hl
    · obtain ⟨k', rfl⟩ : ∃ k', k = 2 ^ n + k' := ⟨k - 2 ^ n, by omega⟩
      have hk' : k' < 2 ^ n := by rw [Nat.pow_succ] at hk; omega
      refine ih (f := fun p => f (2 ^ n + p)) (g := fun p => g (2 ^ n + p)) (fun q hq => ?_) k' hk'
      have := h (2 ^ n + q) (by rw [Nat.pow_succ]; omega)
      rw [sums_hi _ hq, sums_hi _ hq, sums_congr lo] at this; omega
theorem pc_sub : ∀ {n p k : Nat}, sub n p k = true → pc n p ≤ pc n k
  | 0, _, _, _ => Nat.le_refl _
  | n + 1, p, k, h => by
    rw [sub_succ, Bool.and_eq_true] at h
    have := pc_sub h.1
    show pc n p + (if p.testBit n then 1 else 0) ≤ pc n k + (if k.testBit n then 1 else 0)
    cases hp : p.testBit n with
    | false => simp; split <;> omega
    | true =>
      have h2 := h.2
      rw [hp] at h2
      have : k.testBit n = true := by simpa using h2
      rw [this]; omega
theorem pc_sub_eq : ∀ {n p k : Nat}, sub n p k = true → pc n p = pc n k → ∀ i, i < n → p.testBit i = k.testBit i
  | 0, _, _, _, _, i, hi => by omega
  | n + 1, p, k, h, e, i, hi => by
    rw [sub_succ, Bool.and_eq_true] at h
    have h1 := pc_sub h.1
    have e : pc n p + (if p.testBit n then 1 else 0) = pc n k + (if k.testBit n then 1 else 0) := e
    have h2 := h.2
    have hn : p.testBit n = k.testBit n ∧ pc n p = pc n k := by
      cases hp : p.testBit n with
      | false =>
        rw [hp] at e
        cases hk : k.testBit n with
        | false => rw [hk] at e; exact ⟨rfl, by simpa using e⟩
        | true => rw [hk] at e; simp at e; omega
      | true =>
        rw [hp] at h2 e
        have hk : k.testBit n = true := by simpa using h2
        rw [hk] at e
        exact ⟨hk.symm, by simpa using e⟩
    by_cases hi' : i = n
    · subst hi'; exact hn.1
    · exact pc_sub_eq h.1 hn.2 i (by omega)
theorem mask_ext {n p k : Nat} (hp : p < 2 ^ n) (hk : k < 2 ^ n) (h : ∀ i, i < n → p.testBit i = k.testBit i) : p = k := Nat.eq_of_testBit_eq fun i => by
  by_cases hi : i < n
  · exact h i hi
  · rw [tb_hi hp (by omega), tb_hi hk (by omega)]
/-- what is inside of a group -/
theorem inside_sum {n g : Nat} {C : Nat → Int} (hg : g < 2 ^ n) (h0 : DV C n 0 = 0) : (sm (2 ^ n) fun p => if p ≠ 0 ∧ sub n p g = true ∧ pc n p < pc n g then DV C n p else 0) = C g - DV C n g := by
  have z := zeta n C g hg
  have o : (sm (2 ^ n) fun p => if p = g then DV C n g else 0) = DV C n g := by rw [sm_one (a := g) hg (fun m _ h => if_neg h), if_pos rfl]
  rw [← z, ← o]
  unfold sums
  rw [← sm_sub]
  refine sm_congr fun p hp => ?_
  by_cases hpg : p = g
  · subst hpg
    rw [if_neg (by omega), sub_refl]; simp
  · rw [if_neg hpg]
    by_cases hs : sub n p g = true
    · have h1 := pc_sub hs
      have h2 : pc n p ≠ pc n g := fun e => hpg (mask_ext hp hg (pc_sub_eq hs e))
      by_cases hp0 : p = 0
      · subst hp0; rw [if_neg (by omega), h0]; simp
      · rw [if_pos ⟨hp0, hs, by omega⟩, if_pos hs]; omega
    · rw [if_neg (fun q => hs q.2.1), if_neg hs]; omega
theorem DV_zero (C : Nat → Int) : ∀ n, DV C n 0 = C 0
  | 0 => rfl
  | n + 1 => by show DV C n 0 - _ = _; rw [Nat.zero_testBit, DV_zero C n]; simp
/-! ### order prices by dividends, rows of at most six -/
def coef (n i p : Nat) : Nat := ((List.range (2 ^ n)).map fun m => if m.testBit i then 0 else if sub n p (m + 2 ^ i) && !sub n p m then facN (pc n m) * facN (n - 1 - pc n m) else 0).sum
def chkC (n i p : Nat) : Bool := coef n i p * pc n p == if p.testBit i then facN n else 0
theorem chkC_all : (List.range 7).all (fun n => (List.range n).all fun i => (List.range (2 ^ n)).all (chkC n i)) = true := by decide +kernel
theorem coef_0 : (List.range 7).all (fun n => (List.range n).all fun i => (List.range (2 ^ n)).all fun p => p.testBit i || coef n i p == 0) = true := by decide +kernel
theorem sm_nat (f : Nat → Nat) : ∀ n, (((List.range n).map f).sum : Nat) = sm n fun m => (f m : Int)
  | 0 => rfl
  | n + 1 => by
    rw [List.range_succ, List.map_append, List.sum_append, Int.natCast_add, sm_nat f n]
    simp [sm]
theorem mar_div {n i : Nat} (hn : n ≤ 6) (hi : i < n) (C : Nat → Int) : mar n (shw n) C i = sm (2 ^ n) fun p => if p.testBit i then DV C n p * (coef n i p : Int) else 0 := by
  have e1 : mar n (shw n) C i = sm (2 ^ n) fun m => sm (2 ^ n) fun p => DV C n p * (if m.testBit i then 0 else if sub n p (m + 2 ^ i) && !sub n p m then shw n (pc n m) else 0) := by
    refine sm_congr fun m hm => ?_
    by_cases hb : m.testBit i = true
    · simp only [hb, if_true, Int.mul_zero, sm_zero]
    · have hb : m.testBit i = false := by simpa using hb
      simp only [hb, Bool.false_eq_true, if_false]
      rw [← zeta n C (m + 2 ^ i) (add_lt hm hi hb), ← zeta n C m hm]
      unfold sums
      rw [← sm_sub, ← sm_mul]
      refine sm_congr fun p hp => ?_
      have hmono : sub n p m = true → sub n p (m + 2 ^ i) = true := fun h => sub_iff.mpr fun j hj hpj => by
        rw [tb_add hb]
        split
        · rfl
        · exact sub_iff.mp h j hj hpj
      cases h1 : sub n p m with
      | true => rw [hmono h1]; simp
      | false => cases h2 : sub n p (m + 2 ^ i) <;> simp [Int.mul_comm]
  rw [e1, sm_swap (fun m p => DV C n p * (if m.testBit i then 0 else if sub n p (m + 2 ^ i) && !sub n p m then shw n (pc n m) else 0))]
  refine sm_congr fun p hp => ?_
  rw [sm_mul]
  have e2 : sm (2 ^ n) (fun m => if m.testBit i then 0 else if sub n p (m + 2 ^ i) && !sub n p m then shw n (pc n m) else 0) = (coef n i p : Int) := by
    unfold coef
    rw [sm_nat]
    refine sm_congr fun m _ => ?_
    by_cases hb : m.testBit i = true
    · simp [hb]
    · have hb : m.testBit i = false := by simpa using hb
      simp only [hb, Bool.false_eq_true, if_false]
      split
      · unfold shw; rw [fac_N, fac_N, Int.natCast_mul]
      · rfl
  rw [e2]
  split
  · rfl
  · rename_i hb
    have := List.all_eq_true.mp (List.all_eq_true.mp (List.all_eq_true.mp coef_0 n (List.mem_range.mpr (by omega))) i (List.mem_range.mpr hi)) p (List.mem_range.mpr hp)
    simp only [hb, Bool.false_or] at this
    have : coef n i p = 0 := by simpa using this
    rw [this]; simp
theorem coef_pc {n i p : Nat} (hn : n ≤ 6) (hi : i < n) (hp : p < 2 ^ n) (hb : p.testBit i = true) : (pc n p : Int) * (coef n i p : Int) = fac n := by
  have := List.all_eq_true.mp (List.all_eq_true.mp (List.all_eq_true.mp chkC_all n (List.mem_range.mpr (by omega))) i (List.mem_range.mpr hi)) p (List.mem_range.mpr hp)
  unfold chkC at this
  rw [hb, if_pos rfl] at this
  have := beq_iff_eq.mp this
  rw [fac_N, ← this, Int.natCast_mul, Int.mul_comm]
end Sh


set_option linter.all false
set_option maxRecDepth 100000
set_option maxHeartbeats 8000000
namespace Ev
open PySem L2 Sh

/-! ### groups as tuples -/
def mem (n m : Nat) : List Nat := (List.range n).filter fun i => m.testBit i
def memI (n m : Nat) : List Int := (mem n m).map fun (i : Nat) => (i : Int)
def grpV (n m : Nat) : AV := .tup ((memI n m).map .int)
theorem mem_len (m : Nat) : ∀ n, (mem n m).length = pc n m
  | 0 => rfl
  | n + 1 => by
    unfold mem
    rw [List.range_succ, List.filter_append, List.length_append]
    have := mem_len m n
    unfold mem at this
    rw [this]
    show _ + (List.filter _ [n]).length = pc n m + _
    cases hb : m.testBit n <;> simp [hb]
theorem memI_len (n m : Nat) : (memI n m).length = pc n m := by unfold memI; rw [List.length_map, mem_len]
theorem mem_lo {n m : Nat} (h : m < 2 ^ n) : mem (n + 1) m = mem n m := by
  unfold mem
  rw [List.range_succ, List.filter_append]
  simp [tb_hi h (Nat.le_refl _)]
theorem mem_hi {n m : Nat} (h : m < 2 ^ n) : mem (n + 1) (2 ^ n + m) = mem n m ++ [n] := by
  unfold mem
  rw [List.range_succ, List.filter_append]
  congr 1
  · exact List.filter_congr fun i hi => tb_two (List.mem_range.mp hi)
  · simp [Nat.testBit_two_pow_add_eq, tb_hi h (Nat.le_refl _)]
theorem mem_mem {n m i : Nat} : i ∈ mem n m ↔ i < n ∧ m.testBit i = true := by
  unfold mem; rw [List.mem_filter, List.mem_range]
theorem memI_mem {n m : Nat} {x : Int} : x ∈ memI n m ↔ ∃ i : Nat, x = i ∧ i < n ∧ m.testBit i = true := by
  unfold memI
  rw [List.mem_map]
  constructor
  · rintro ⟨i, h, rfl⟩; exact ⟨i, rfl, mem_mem.mp h⟩
  · rintro ⟨i, rfl, h⟩; exact ⟨i, mem_mem.mpr h, rfl⟩
theorem memI_inj {n p q : Nat} (hp : p < 2 ^ n) (hq : q < 2 ^ n) (h : memI n p = memI n q) : p = q := mask_ext hp hq fun i hi => by
  have e : ((i : Int) ∈ memI n p) ↔ ((i : Int) ∈ memI n q) := by rw [h]
  rw [memI_mem, memI_mem] at e
  cases hb : p.testBit i with
  | true =>
    obtain ⟨j, e1, _, e2⟩ := e.mp ⟨i, rfl, hi, hb⟩
    have : i = j := by omega
    rw [this, e2]
  | false =>
    cases hc : q.testBit i with
    | false => rfl
    | true =>
      obtain ⟨j, e1, _, e2⟩ := e.mpr ⟨i, rfl, hi, hc⟩
      have : i = j := by omega
      rw [this, e2] at hb; cases hb
theorem memI_ne {n m : Nat} (h : m < 2 ^ n) (h0 : m ≠ 0) : memI n m ≠ [] := fun e => by
  have := memI_len n m
  rw [e] at this
  exact h0 (pc_zero h this.symm)
theorem intsOf_map : ∀ ns : List Int, intsOf (ns.map AV.int) = some ns
  | [] => rfl
  | n :: r => by show (intsOf (r.map AV.int)).map (n :: ·) = _; rw [intsOf_map r]; rfl
theorem tupK_grp {n m : Nat} (h : m < 2 ^ n) (h0 : m ≠ 0) : tupK (grpV n m) = some (memI n m) := by
  have := memI_ne h h0
  unfold grpV
  cases q : memI n m with
  | nil => exact absurd q this
  | cons x r => exact intsOf_map (x :: r)
/-- the masks of the groups that are not empty, in the order of their tuples -/
def ltM (n a b : Nat) : Bool := HT.lexLt (memI n a) (memI n b)
def gsM (n : Nat) : List Nat := isort (ltM n) ((List.range (2 ^ n - 1)).map (· + 1))
theorem gsM_ok (n : Nat) : SrtO.Srtd (ltM n) (gsM n) ∧ SrtO.Stb (ltM n) (gsM n) ((List.range (2 ^ n - 1)).map (· + 1)) := isort_ok (swo_lexI (memI n)) _
theorem gsM_mem {n m : Nat} : m ∈ gsM n ↔ m ≠ 0 ∧ m < 2 ^ n := by
  rw [(gsM_ok n).2.perm.mem_iff, List.mem_map]
  have := Nat.two_pow_pos n
  constructor
  · rintro ⟨k, h, rfl⟩
    rw [List.mem_range] at h
    omega
  · rintro ⟨h1, h2⟩
    exact ⟨m - 1, List.mem_range.mpr (by omega), by omega⟩
theorem gsM_len (n : Nat) : (gsM n).length = 2 ^ n - 1 := by rw [(gsM_ok n).2.perm.length_eq]; simp
theorem perm_sum {α : Type} (f : α → Int) {l m : List α} (h : l.Perm m) : (l.map f).sum = (m.map f).sum := by
  induction h with
  | nil => rfl
  | cons x _ ih => simp only [List.map_cons, List.sum_cons, ih]
  | swap x y l => simp only [List.map_cons, List.sum_cons]; omega
  | trans _ _ h1 h2 => exact h1.trans h2
theorem filter_sum {α : Type} (f : α → Int) (p : α → Bool) : ∀ l : List α, ((l.filter p).map f).sum = (l.map fun x => if p x then f x else 0).sum
  | [] => rfl
  | x :: r => by
    have ih := filter_sum f p r
    rw [List.filter_cons]
    cases hp : p x <;> simp [hp, ih]
/-- a sum over the groups -/
theorem gsM_sum (n : Nat) (f : Nat → Int) : ((gsM n).map f).sum = sm (2 ^ n) fun p => if p ≠ 0 then f p else 0 := by
  rw [perm_sum f (gsM_ok n).2.perm]
  have p := Nat.two_pow_pos n
  obtain ⟨N, hN⟩ : ∃ N, 2 ^ n = 1 + N := ⟨2 ^ n - 1, by omega⟩
  rw [hN, sm_add, List.map_map, sm_range (f ∘ (· + 1)) (1 + N - 1)]
  have : 1 + N - 1 = N := by omega
  rw [this]
  show _ = (0 + (if (0 : Nat) ≠ 0 then f 0 else 0)) + _
  rw [if_neg (by omega), Int.add_zero, Int.zero_add]
  refine sm_congr fun m _ => ?_
  rw [if_pos (by omega), Nat.add_comm 1 m]; rfl
/-- the members' kinds -/
def selL (l : List Int) (m : Nat) : List Int := (mem l.length m).map fun i => l.getD i 0
theorem getD_app {l : List Int} {k : Int} {i : Nat} (h : i < l.length) : (l ++ [k]).getD i 0 = l.getD i 0 := by
  rw [List.getD_eq_getElem?_getD, List.getD_eq_getElem?_getD, List.getElem?_append_left h]
theorem sel_cost (bk : List (List (Int × Int))) : ∀ (l : List Int) (m : Nat), m < 2 ^ l.length → (stOf bk 0 (selL l m), (adOf bk 0 (selL l m)).sum) = Sh.G bk l m := by
  refine snocInd (fun m h => ?_) fun l k ih m h => ?_
  · have h : m < 1 := h
    obtain rfl : m = 0 := by omega
    rfl
  · rw [List.length_append, List.length_singleton] at h
    have low : ∀ m, (mem l.length m).map (fun i => (l ++ [k]).getD i 0) = selL l m := fun m => List.map_congr_left fun i hi => getD_app (mem_mem.mp hi).1
    by_cases hm : m < 2 ^ l.length
    · rw [G_lo bk hm, ← ih m hm]
      have : selL (l ++ [k]) m = selL l m := by
        unfold selL
        rw [List.length_append, List.length_singleton, mem_lo hm]; exact low m
      rw [this]
    · obtain ⟨q, rfl⟩ : ∃ q, m = 2 ^ l.length + q := ⟨m - 2 ^ l.length, by omega⟩
      have hq : q < 2 ^ l.length := by rw [Nat.pow_succ] at h; omega
      rw [G_hi bk hq, ← ih q hq]
      have : selL (l ++ [k]) (2 ^ l.length + q) = selL l q ++ [k] := by
        unfold selL
        rw [List.length_append, List.length_singleton, mem_hi hq, List.map_append, low q]
        congr 1
        show [(l ++ [k]).getD l.length 0] = [k]
        rw [List.getD_eq_getElem?_getD, List.getElem?_append_right (Nat.le_refl _)]; simp
      rw [this, stOf_snoc, adOf_snoc, sum_snoc]; rfl
theorem sel_in {l : List Int} {kinds : Nat} (h : inB l kinds) (m : Nat) : inB (selL l m) kinds := fun x hx => by
  obtain ⟨i, hi, rfl⟩ := List.mem_map.mp hx
  have := (mem_mem.mp hi).1
  rw [List.getD_eq_getElem?_getD, List.getElem?_eq_getElem this]
  exact h _ (List.getElem_mem this)

/-! ### comprehensions with a question -/
theorem comp_filt {chk : AH → Bool} {tg : AV → AH → Res Sl} {q : Sl → AH → Res Bool} {elt : Sl → AH → Res AV} {α : Type} {L : List α} {g : α → AV} {A : AH} (p : α → Bool) (f : α → AV) (hl : L.length ≤ sizeLine) (hc : chk A = true)
    (h : ∀ x ∈ L, ∃ σ2, tg (g x) A = .ok σ2 A ∧ q σ2 A = .ok (p x) A ∧ (p x = true → elt σ2 A = .ok (f x) A)) : compGo chk tg q elt (L.map g) [] A = .ok ((L.filter p).map f) A := by
  obtain ⟨acc, A', h1, rfl, rfl⟩ := comp_run (chk := chk) (tg := tg) (q := q) (elt := elt) (xs := L.map g) (A := A) (fun i acc A' => A' = A ∧ acc = ((L.take i).filter p).map f) ⟨rfl, rfl⟩ (by rw [List.length_map]; exact hl)
    (fun i acc A' _ ⟨e1, e2⟩ => ⟨by rw [e1]; exact hc, by
      rw [e2, List.length_map]
      exact Nat.le_trans (List.length_filter_le _ _) (by rw [List.length_take]; omega)⟩) (fun i x acc A' hx ⟨e1, e2⟩ => by
      subst e1
      rw [List.getElem?_map] at hx
      obtain ⟨y, hy, rfl⟩ := Option.map_eq_some_iff.mp hx
      obtain ⟨σ2, a, b, d⟩ := h y (List.mem_of_getElem? hy)
      refine ⟨σ2, A', p y, A', a, b, ?_⟩
      cases hp : p y with
      | true => rw [if_pos rfl]; exact ⟨_, _, d hp, rfl, by rw [e2, take_get hy, List.filter_append, List.map_append]; simp [hp]⟩
      | false => rw [if_neg Bool.false_ne_true]; exact ⟨rfl, by rw [e2, take_get hy, List.filter_append]; simp [hp]⟩)
  rw [h1, List.length_map, List.take_length]
theorem compFiltO {c : Cfg} {own : List Nat} {t : T} {q elt : E} {σ : Sl} {A : AH} {n : Nat} {e : E} {α : Type} {L : List α} {g : α → AV} (p : α → Bool) (f : α → AV) (h : evE c e σ A = .ok (.ref n) A) (h2 : A[n]? = some (.lst (L.map g))) (hz : L.length ≤ sizeLine)
    (hs : ∀ x ∈ L, ∃ σ2, evTg c t (g x) (wipeS σ own) A = .ok σ2 A ∧ evE c q σ2 A = .ok (.bl (p x)) A ∧ (p x = true → evE c elt σ2 A = .ok (f x) A)) : evL c (.comp own (.v e) t q elt) σ A = .ok ((L.filter p).map f) A := by
  rw [compO h h2]
  exact comp_filt p f hz (chk_obj h2) fun x hx => by
    obtain ⟨σ2, a, b, d⟩ := hs x hx
    exact ⟨σ2, a, by show (evE c q σ2 A).bind tru = _; rw [b]; rfl, d⟩
theorem compFiltN {c : Cfg} {own : List Nat} {t : T} {q elt : E} {σ : Sl} {A : AH} {n : Nat} {e : E} (p : Nat → Bool) (f : Nat → AV) (h : evE c e σ A = .ok (.int n) A) (hz : n ≤ 1000000)
    (hs : ∀ i, i < n → ∃ σ2, evTg c t (.int i) (wipeS σ own) A = .ok σ2 A ∧ evE c q σ2 A = .ok (.bl (p i)) A ∧ (p i = true → evE c elt σ2 A = .ok (f i) A)) : evL c (.comp own (.range1 e) t q elt) σ A = .ok (((List.range n).filter p).map f) A := by
  rw [compN h (by omega)]
  exact comp_filt p f (by rw [List.length_range]; exact Nat.le_of_lt (size_big hz)) rfl fun x hx => by
    obtain ⟨σ2, a, b, d⟩ := hs x (List.mem_range.mp hx)
    exact ⟨σ2, a, by show (evE c q σ2 A).bind tru = _; rw [b]; rfl, d⟩
theorem compMapV {c : Cfg} {own : List Nat} {t : T} {elt : E} {σ : Sl} {A : AH} {e : E} {α : Type} {L : List α} {g : α → AV} (f : α → AV) (h : evE c e σ A = .ok (.tup (L.map g)) A) (hz : L.length ≤ sizeLine)
    (hs : ∀ x ∈ L, ∃ σ2, evTg c t (g x) (wipeS σ own) A = .ok σ2 A ∧ evE c elt σ2 A = .ok (f x) A) : evL c (.comp own (.v e) t (.lit (.bl true)) elt) σ A = .ok (L.map f) A := by
  rw [compV h]
  have := comp_filt (chk := (Itm.val (L.map g)).chk) (tg := fun x A => evTg c t x (wipeS σ own) A) (q := fun σ A => (evE c (.lit (.bl true)) σ A).bind tru) (elt := fun σ A => evE c elt σ A) (L := L) (g := g) (A := A) (fun _ => true) f hz rfl (fun x hx => by
    obtain ⟨σ2, a, b⟩ := hs x hx
    exact ⟨σ2, a, rfl, fun _ => b⟩)
  rw [List.filter_eq_self.mpr (fun _ _ => rfl)] at this
  exact this

/-! ### the program's groups -/
def bGroupsUp : List S := [.asg (.name 1) (.new (.disp [])),
    .for_ (.name 2) (.range2 (.lit (.int 1)) (.bin .shl (.lit (.int 1)) (.var 0))) [.expr (.mth .append (.var 1) [(.lf .tup (.comp [3] (.range1 (.var 0)) (.name 3) (.cmp .eq (.bin .band (.bin .shr (.var 2) (.var 3)) (.lit (.int 1))) (.lit (.int 1))) (.var 3)))])],
    .ret (.bif .sortd [(.var 1)])]
def bIsPart : List S := [.for_ (.name 2) (.v (.var 0)) [.if_ (.cmp .notin (.var 2) (.var 1)) [.ret (.lit (.bl false))] []],
    .ret (.lit (.bl true))]
theorem grp_comp (c : Cfg) (A : AH) {n m : Nat} (hn : n ≤ 1000) (o1 o3 : Option AV) : evL c (.comp [3] (.range1 (.var 0)) (.name 3) (.cmp .eq (.bin .band (.bin .shr (.var 2) (.var 3)) (.lit (.int 1))) (.lit (.int 1))) (.var 3)) [some (.int (n : Int)), o1, some (.int (m : Int)), o3] A = .ok ((memI n m).map .int) A := by
  rw [compFiltN (n := n) (fun i => m.testBit i) (fun i => AV.int (i : Int)) (by simp) (by omega) (fun i hi => ?_)]
  · unfold memI mem; rw [List.map_map]; rfl
  · obtain ⟨b1, b2⟩ := bit_int m i A
    refine ⟨_, rfl, ?_, fun _ => by simp [wipeS]⟩
    generalize ((m / 2 ^ i : Nat) : Int) = z at b1 b2
    cases hb : m.testBit i <;> rw [hb] at b2 <;> simp [wipeS, b1, b2]
theorem isort_grp {n : Nat} {L : List Nat} (h : ∀ m ∈ L, m ≠ 0 ∧ m < 2 ^ n) : isort ltK (L.map (grpV n)) = (isort (ltM n) L).map (grpV n) := by
  rw [isort_map (lt' := ltK) (grpV n)]
  intro x hx y hy
  unfold ltK ltM
  rw [tupK_grp (h x hx).2 (h x hx).1, tupK_grp (h y hy).2 (h y hy).1]; rfl
def groupsIs (c : Cfg) : Prop := ∀ A (n : Nat), n ≤ 10 → ∃ A' r, c.fn "groups_up_to" [.int n] A = .ok (.ref r) A' ∧ Ex A A' ∧ A.length ≤ r ∧ A'[r]? = some (.lst ((gsM n).map (grpV n)))
theorem groups_ev (c : Cfg) (A : AH) {n : Nat} (hn : n ≤ 10) : ∃ A' r, (evSs c bGroupsUp [some (.int n), none, none, none] A).fin = .ok (.ref r) A' ∧ Ex A A' ∧ A.length ≤ r ∧ A'[r]? = some (.lst ((gsM n).map (grpV n))) := by
  have pN : 2 ^ n ≤ 1024 := Nat.pow_le_pow_right (show 0 < 2 by decide) hn
  have pN0 := Nat.two_pow_pos n
  have sh := shl1 n (A ++ [.lst []]) (by omega)
  have hN : (((2 ^ n : Nat) : Int) - 1).toNat = 2 ^ n - 1 := by omega
  have loop : ∃ σ' A', evS c (.for_ (.name 2) (.range2 (.lit (.int 1)) (.bin .shl (.lit (.int 1)) (.var 0))) [.expr (.mth .append (.var 1) [(.lf .tup (.comp [3] (.range1 (.var 0)) (.name 3) (.cmp .eq (.bin .band (.bin .shr (.var 2) (.var 3)) (.lit (.int 1))) (.lit (.int 1))) (.var 3)))])])
      [some (.int n), some (.ref A.length), none, none] (A ++ [.lst []]) = .next σ' A' ∧ ∃ o2 o3, σ' = [some (.int n), some (.ref A.length), o2, o3] ∧ Ex A A' ∧ A'[A.length]? = some (.lst (((List.range ((List.range (((2 ^ n : Nat) : Int) - 1).toNat).map fun (k : Nat) => AV.int (1 + k)).length).map (· + 1)).map (grpV n))) := by
    rw [forN2 (i := 1) (j := ((2 ^ n : Nat) : Int)) (by simp) (by simp only [evE_bin, evE_lit, bind_ok, kBin_eq, evE_var, List.getElem?_cons_zero, sh]) (by omega)]
    refine for_end (fun i σ A' => ∃ o2 o3, σ = [some (.int n), some (.ref A.length), o2, o3] ∧ Ex A A' ∧ A'[A.length]? = some (.lst (((List.range i).map (· + 1)).map (grpV n)))) ⟨none, none, rfl, (Ex.refl A).app _, get_new _ _⟩ (fun _ _ _ _ _ => rfl) (fun i x σ A1 hx hi => ?_)
    obtain ⟨o2, o3, rfl, ex, hl⟩ := hi
    rw [List.getElem?_map] at hx
    obtain ⟨j, h1, rfl⟩ := Option.map_eq_some_iff.mp hx
    obtain ⟨h4, h5⟩ := List.getElem?_eq_some_iff.mp h1
    rw [List.getElem_range] at h5
    rw [List.length_range, hN] at h4
    subst h5
    have ei : (1 : Int) + (i : Int) = ((i + 1 : Nat) : Int) := by omega
    rw [ei]
    have g := grp_comp c A1 (n := n) (m := i + 1) (by omega) (some (.ref A.length)) o3
    have ap := append_ref (x := .tup ((memI n (i + 1)).map .int)) hl (by simp only [List.length_map, List.length_range]; exact size_big (by omega))
    refine ⟨_, _, rfl, [some (.int n), some (.ref A.length), some (.int ((i + 1 : Nat) : Int)), o3], _, ?_, _, _, rfl, ex.set (n := A.length) (Nat.le_refl _) _, get_set (get_lt hl)⟩
    rw [List.range_succ, List.map_append, List.map_append]
    simp only [evSs_cons, evS_expr, evE_mth, evE_var, List.getElem?_cons_zero, List.getElem?_cons_succ, List.set_cons_zero, List.set_cons_succ, bind_ok, kMth_eq, mthTy_ref hl, if_true, evEs_cons, evE_lf, g, aLF, kCons_eq, evEs_nil, kCons2_eq, ap, out_ok, kExpr_eq, seq_next, kSs_eq, evSs_nil]
    rfl
  obtain ⟨σ', A1, h1, o2, o3, rfl, ex, hl⟩ := loop
  rw [List.length_map, List.length_range, hN] at hl
  have hmem : ∀ m ∈ (List.range (2 ^ n - 1)).map (· + 1), m ≠ 0 ∧ m < 2 ^ n := fun m hm => by
    obtain ⟨k, hk, rfl⟩ := List.mem_map.mp hm
    rw [List.mem_range] at hk
    omega
  have lo : lstOf A1 (.ref A.length) = some (((List.range (2 ^ n - 1)).map (· + 1)).map (grpV n)) := by simp only [lstOf, hl]
  have al : (((List.range (2 ^ n - 1)).map (· + 1)).map (grpV n)).all (fun y => (tupK y).isSome) = true := by
    rw [List.all_eq_true]
    intro y hy
    obtain ⟨m, hm, rfl⟩ := List.mem_map.mp hy
    rw [tupK_grp (hmem m hm).2 (hmem m hm).1]; rfl
  have so : aBif .sortd [.ref A.length] A1 = .ok (.ref A1.length) (A1 ++ [.lst ((gsM n).map (grpV n))]) := by
    simp only [aBif, lo, al, if_true, isort_grp hmem]; rfl
  refine ⟨_, A1.length, ?_, ex.app _, ex.len, get_new A1 (.lst ((gsM n).map (grpV n)))⟩
  simp [bGroupsUp, h1, so]
theorem in_ints (A : AH) (x : Int) (ns : List Int) : aIn A (.int x) (.tup (ns.map .int)) = some (decide (x ∈ ns)) := by
  have f : (ns.map AV.int).all flat = true := by
    rw [List.all_eq_true]
    intro y hy
    obtain ⟨i, _, rfl⟩ := List.mem_map.mp hy; rfl
  show (if flat (.int x) && (ns.map AV.int).all flat then _ else none) = _
  rw [f]
  show some _ = _
  congr 1
  rw [Bool.eq_iff_iff, List.any_eq_true, decide_eq_true_eq]
  constructor
  · rintro ⟨y, hy, e⟩
    obtain ⟨i, hi, rfl⟩ := List.mem_map.mp hy
    have : i = x := beq_iff_eq.mp e
    rw [← this]; exact hi
  · intro h
    exact ⟨.int x, List.mem_map.mpr ⟨x, h, rfl⟩, beq_iff_eq.mpr rfl⟩
def partIs (c : Cfg) : Prop := ∀ A (n p g : Nat), n ≤ 1000 → c.fn "is_part" [grpV n p, grpV n g] A = .ok (.bl (Sh.sub n p g)) A
theorem part_ev (c : Cfg) (A : AH) {n p g : Nat} : (evSs c bIsPart [some (grpV n p), some (grpV n g), none] A).fin = .ok (.bl (Sh.sub n p g)) A := by
  have := for_ask (chk := (Itm.val ((memI n p).map .int)).chk) (tg := fun x σ A => evTg c (.name 2) x σ A) (body := fun σ A => evSs c [.if_ (.cmp .notin (.var 2) (.var 1)) [.ret (.lit (.bl false))] []] σ A) (xs := (memI n p).map .int) (σ := [some (grpV n p), some (grpV n g), none]) (A := A)
    (fun σ => ∃ o, σ = [some (grpV n p), some (grpV n g), o]) (fun x => match x with | .int i => decide (i ∈ memI n g) | _ => false) (.bl false) ⟨_, rfl⟩ rfl (fun x hx σ hσ => by
      obtain ⟨o, rfl⟩ := hσ
      obtain ⟨i, _, rfl⟩ := List.mem_map.mp hx
      have hi : aCmp .notin (.int i) (grpV n g) A = some (!decide (i ∈ memI n g)) := by show (aIn A (.int i) (grpV n g)).map _ = _; unfold grpV; rw [in_ints]; rfl
      refine ⟨[some (grpV n p), some (grpV n g), some (.int i)], rfl, ?_⟩
      by_cases h : i ∈ memI n g
      · simp only [h, decide_true, if_true] at hi ⊢
        exact ⟨_, by simp [hi]; rfl, _, rfl⟩
      · simp only [h, decide_false] at hi ⊢
        simp [hi])
  rw [← forV (c := c) (t := .name 2) (e := .var 0) (b := [.if_ (.cmp .notin (.var 2) (.var 1)) [.ret (.lit (.bl false))] []]) rfl] at this
  have e : ((memI n p).map AV.int).all (fun x => match x with | .int i => decide (i ∈ memI n g) | _ => false) = Sh.sub n p g := by
    rw [Bool.eq_iff_iff, List.all_eq_true, sub_iff]
    constructor
    · intro h i hi hp
      have := h (.int (i : Int)) (List.mem_map.mpr ⟨i, memI_mem.mpr ⟨i, rfl, hi, hp⟩, rfl⟩)
      obtain ⟨j, e1, _, e2⟩ := memI_mem.mp (of_decide_eq_true this)
      have : i = j := by omega
      rw [this, e2]
    · intro h x hx
      obtain ⟨y, hy, rfl⟩ := List.mem_map.mp hx
      obtain ⟨j, rfl, h1, h2⟩ := memI_mem.mp hy
      exact decide_eq_true (memI_mem.mpr ⟨j, rfl, h1, h j h1 h2⟩)
  rw [e] at this
  cases hs : Sh.sub n p g with
  | true =>
    rw [hs, if_pos rfl] at this
    obtain ⟨σ', h1, o, rfl⟩ := this
    simp [bIsPart, h1]
  | false =>
    rw [hs, if_neg Bool.false_ne_true] at this
    simp [bIsPart, this]
end Ev


set_option linter.all false
set_option maxRecDepth 100000
set_option maxHeartbeats 8000000
namespace Ev
open PySem L2 Sh

/-! ### the program's dividends -/
def bDivs : List S := [.asg (.name 2) (.call "groups_up_to" [(.bif .len [(.var 1)])] []),
    .asg (.name 3) .dnew,
    .for_ (.name 4) (.range2 (.lit (.int 1)) (.bin .add (.bif .len [(.var 1)]) (.lit (.int 1)))) [.for_ (.name 5) (.v (.var 2)) [.if_ (.cmp .eq (.bif .len [(.var 5)]) (.var 4)) [.asg (.name 6) (.call "cost_of" [(.var 0), (.lf .tup (.comp [9] (.v (.var 5)) (.name 9) (.lit (.bl true)) (.ix (.var 1) (.var 9))))] []),
          .asg (.name 7) (.new (.comp [8] (.v (.var 2)) (.name 8) (.and (.cmp .lt (.bif .len [(.var 8)]) (.var 4)) (.call "is_part" [(.var 8), (.var 5)] [])) (.ix (.var 3) (.var 8)))),
          .asg (.sub (.var 3) (.var 5)) (.bin .sub (.var 6) (.bif (.lfof .sum) [(.var 7)]))] []]],
    .ret (.lf .tup (.comp [5] (.v (.var 2)) (.name 5) (.lit (.bl true)) (.tup [(.var 5), (.ix (.var 3) (.var 5))])))]
abbrev D3 := List (List Int × Int)
def ek3 (k : List Int) : List Key := k.map .inl
theorem ek3_inj : ∀ a b : List Int, ek3 a = ek3 b → a = b
  | [], [], _ => rfl
  | [], _ :: _, h => by cases h
  | _ :: _, [], h => by cases h
  | x :: xs, y :: ys, h => by
    unfold ek3 at h
    rw [List.map_cons, List.map_cons] at h
    injection h with h1 h2
    injection h1 with h1
    rw [h1, ek3_inj xs ys h2]
def ovr (_ v : Int) : Int := v
theorem look_put {D : D3} {k k' : List Int} {v : Int} : look (addD ovr D k v) k' = if k = k' then some v else look D k' := by
  induction D with
  | nil => rfl
  | cons e r ih =>
    unfold addD
    by_cases h : e.1 = k
    · rw [if_pos h]
      subst h
      show (if e.1 = k' then some v else look r k') = if e.1 = k' then some v else (if e.1 = k' then some e.2 else look r k')
      split <;> rfl
    · rw [if_neg h]
      show (if e.1 = k' then some e.2 else look (addD ovr r k v) k') = if k = k' then some v else (if e.1 = k' then some e.2 else look r k')
      rw [ih]
      by_cases h1 : e.1 = k'
      · have h2 : ¬ k = k' := fun z => h (h1.trans z.symm)
        simp [h1, h2]
      · simp [h1]
theorem atomsK_ints : ∀ ns : List Int, atomsK (ns.map AV.int) = some (ek3 ns)
  | [] => rfl
  | x :: r => by simp only [List.map_cons, atomsK, atomK, atomsK_ints r]; rfl
theorem keyOf_grp (n m : Nat) : keyOf (grpV n m) = some (ek3 (memI n m)) := atomsK_ints _
section
variable {A : AH} {r : Nat} {D : D3} {fz : Bool}
theorem ix3 (hA : A[r]? = some (.dT fz (encD ek3 AV.int D))) {n m : Nat} {v : Int} (h : look D (memI n m) = some v) : aIx (.ref r) (grpV n m) A = some (.int v) := by
  show (match A[r]? with | some (.dT _ kvs) => (keyOf (grpV n m)).bind fun k => aGet kvs k | _ => none) = _
  rw [hA]
  show (keyOf (grpV n m)).bind (fun k => aGet (encD ek3 AV.int D) k) = _
  rw [keyOf_grp]
  show aGet _ (ek3 (memI n m)) = _
  rw [aGet_enc ek3_inj, h]; rfl
theorem put3 (hA : A[r]? = some (.dT false (encD ek3 AV.int D))) (nd : (keysD D).Nodup) (hz : D.length < sizeLine) (n m : Nat) (v : Int) : aSet (.ref r) (grpV n m) (.int v) A = some (A.set r (.dT false (encD ek3 AV.int (addD ovr D (memI n m) v)))) := by
  have p : aPut (encD ek3 AV.int D) (ek3 (memI n m)) (.int v) = encD ek3 AV.int (addD ovr D (memI n m) v) := by
    have p := aPut_enc (add := ovr) (ev := AV.int) ek3_inj nd (memI n m) v
    cases q : look D (memI n m) with
    | none => rw [q] at p; exact p
    | some u => rw [q] at p; exact p
  show (match A[r]?, keyOf (grpV n m) with | some (.dT false kvs), some k => if kvs.length < sizeLine then some (A.set r (.dT false (aPut kvs k (.int v)))) else none | _, _ => none) = _
  rw [hA, keyOf_grp]
  have hz' : (encD ek3 AV.int D).length < sizeLine := by rw [encD, List.length_map]; exact hz
  show (if (encD ek3 AV.int D).length < sizeLine then _ else _) = _
  rw [if_pos hz', p]
end
theorem len_grp (n m : Nat) (A : AH) : aBif .len [grpV n m] A = .ok (.int ((pc n m : Nat) : Int)) A := by
  show Res.ok (AV.int (((memI n m).map AV.int).length : Nat)) A = _
  rw [List.length_map, memI_len]
theorem grp_nat (n m : Nat) : grpV n m = .tup ((mem n m).map fun (i : Nat) => AV.int (i : Int)) := by unfold grpV memI; rw [List.map_map]; rfl
def divV (n : Nat) (dv : Nat → Int) : AV := .tup ((gsM n).map fun g => .tup [grpV n g, .int (dv g)])
section
variable {bk : List (List (Int × Int))} {kinds states : Nat} {lo hi : Int}
def costIs (c : Cfg) (bk : List (List (Int × Int))) (kinds : Nat) : Prop := ∀ A (l : List Int), inB l kinds → c.fn "cost_of" [bookV bk, rowI l] A = .ok (.int (adOf bk 0 l).sum) A
theorem divs_ev (c : Cfg) (gi : groupsIs c) (pi : partIs c) (ci : costIs c bk kinds) (A : AH) {l : List Int} (hl : inB l kinds) (hz : l.length ≤ 10) : ∃ A', (evSs c bDivs [some (bookV bk), some (rowI l), none, none, none, none, none, none, none, none] A).fin = .ok (divV l.length (DV (fun m => (Sh.G bk l m).2) l.length)) A' ∧ Ex A A' := by
  obtain ⟨n, hn⟩ : ∃ n, l.length = n := ⟨_, rfl⟩
  rw [hn] at hz ⊢
  have pN : 2 ^ n ≤ 1024 := Nat.pow_le_pow_right (show 0 < 2 by decide) hz
  generalize hC : (fun m => (Sh.G bk l m).2) = C
  have hC0 : C 0 = 0 := by rw [← hC]; show (Sh.G bk l 0).2 = 0; rw [G_nil]
  have hCm : ∀ m, m < 2 ^ n → (adOf bk 0 (selL l m)).sum = C m := fun m hm => by
    have := sel_cost bk l m (by rw [hn]; exact hm)
    rw [← hC]; show _ = (Sh.G bk l m).2; rw [← this]
  have hD0 : DV C n 0 = 0 := by rw [DV_zero, hC0]
  obtain ⟨A1, r, e1, ex1, hr, hg⟩ := gi A n hz
  have glen : (gsM n).length ≤ 1024 := by rw [gsM_len]; omega
  have hlen : ∀ B, aBif .len [rowI l] B = .ok (.int (n : Int)) B := fun B => by rw [len_row, hn]
  have gmem := fun m (h : m ∈ gsM n) => gsM_mem.mp h
  have h3 := get_new A1 (.dT false [])
  have hg1 := get_app hg [AO.dT false []]
  have n3l : A.length ≤ A1.length := ex1.len
  have hrl := get_lt hg
  generalize hn3 : A1.length = n3 at h3 n3l hrl
  have body : ∀ (σ' : Sl), True := fun _ => trivial
  have loop : ∃ σ' A', evS c (.for_ (.name 4) (.range2 (.lit (.int 1)) (.bin .add (.bif .len [(.var 1)]) (.lit (.int 1)))) [.for_ (.name 5) (.v (.var 2)) [.if_ (.cmp .eq (.bif .len [(.var 5)]) (.var 4)) [.asg (.name 6) (.call "cost_of" [(.var 0), (.lf .tup (.comp [9] (.v (.var 5)) (.name 9) (.lit (.bl true)) (.ix (.var 1) (.var 9))))] []),
          .asg (.name 7) (.new (.comp [8] (.v (.var 2)) (.name 8) (.and (.cmp .lt (.bif .len [(.var 8)]) (.var 4)) (.call "is_part" [(.var 8), (.var 5)] [])) (.ix (.var 3) (.var 8)))),
          .asg (.sub (.var 3) (.var 5)) (.bin .sub (.var 6) (.bif (.lfof .sum) [(.var 7)]))] []]]) [some (bookV bk), some (rowI l), some (.ref r), some (.ref n3), none, none, none, none, none, none] (A1 ++ [.dT false []]) = .next σ' A' ∧
      ∃ o4 o5 o6 o7 o8 o9 D, σ' = [some (bookV bk), some (rowI l), some (.ref r), some (.ref n3), o4, o5, o6, o7, o8, o9] ∧ Ex A A' ∧ A'[r]? = some (.lst ((gsM n).map (grpV n))) ∧ A'[n3]? = some (.dT false (encD ek3 AV.int D)) ∧ (keysD D).Nodup ∧ D.length ≤ ((List.range ((n : Int) + 1 - 1).toNat).map fun (k : Nat) => AV.int (1 + k)).length * 1024 ∧
        ∀ g ∈ gsM n, pc n g ≤ ((List.range ((n : Int) + 1 - 1).toNat).map fun (k : Nat) => AV.int (1 + k)).length → look D (memI n g) = some (DV C n g) := by
    rw [forN2 (i := 1) (j := (n : Int) + 1) (by simp) (by simp [hlen]) (by omega)]
    refine for_end (fun k σ A' => ∃ o4 o5 o6 o7 o8 o9 D, σ = [some (bookV bk), some (rowI l), some (.ref r), some (.ref n3), o4, o5, o6, o7, o8, o9] ∧ Ex A A' ∧ A'[r]? = some (.lst ((gsM n).map (grpV n))) ∧ A'[n3]? = some (.dT false (encD ek3 AV.int D)) ∧ (keysD D).Nodup ∧ D.length ≤ k * 1024 ∧
        ∀ g ∈ gsM n, pc n g ≤ k → look D (memI n g) = some (DV C n g))
      ⟨none, none, none, none, none, none, [], rfl, ex1.app _, hg1, h3, List.nodup_nil, Nat.le_refl _, fun g hg hp => absurd (pc_zero (gmem g hg).2 (by omega)) (gmem g hg).1⟩ (fun _ _ _ _ _ => rfl) (fun k x σ B hx hk => ?_)
    obtain ⟨o4, o5, o6, o7, o8, o9, D, rfl, exB, hBr, hB3, nd, dl, inv⟩ := hk
    rw [List.getElem?_map] at hx
    obtain ⟨j, q1, rfl⟩ := Option.map_eq_some_iff.mp hx
    obtain ⟨q4, q5⟩ := List.getElem?_eq_some_iff.mp q1
    rw [List.getElem_range] at q5
    rw [List.length_range] at q4
    subst q5
    have kn : k < n := by omega
    have ek : (1 : Int) + (k : Int) = ((k + 1 : Nat) : Int) := by omega
    rw [ek]
    refine ⟨_, _, rfl, ?_⟩
    have inner : ∃ σ' A', evS c (.for_ (.name 5) (.v (.var 2)) [.if_ (.cmp .eq (.bif .len [(.var 5)]) (.var 4)) [.asg (.name 6) (.call "cost_of" [(.var 0), (.lf .tup (.comp [9] (.v (.var 5)) (.name 9) (.lit (.bl true)) (.ix (.var 1) (.var 9))))] []),
          .asg (.name 7) (.new (.comp [8] (.v (.var 2)) (.name 8) (.and (.cmp .lt (.bif .len [(.var 8)]) (.var 4)) (.call "is_part" [(.var 8), (.var 5)] [])) (.ix (.var 3) (.var 8)))),
          .asg (.sub (.var 3) (.var 5)) (.bin .sub (.var 6) (.bif (.lfof .sum) [(.var 7)]))] []]) [some (bookV bk), some (rowI l), some (.ref r), some (.ref n3), some (.int ((k + 1 : Nat) : Int)), o5, o6, o7, o8, o9] B = .next σ' A' ∧
        ∃ o5 o6 o7 o8 o9 D, σ' = [some (bookV bk), some (rowI l), some (.ref r), some (.ref n3), some (.int ((k + 1 : Nat) : Int)), o5, o6, o7, o8, o9] ∧ Ex A A' ∧ A'[r]? = some (.lst ((gsM n).map (grpV n))) ∧ A'[n3]? = some (.dT false (encD ek3 AV.int D)) ∧ (keysD D).Nodup ∧ D.length ≤ k * 1024 + ((gsM n).map (grpV n)).length ∧
          ∀ g ∈ gsM n, (pc n g ≤ k ∨ (pc n g = k + 1 ∧ g ∈ (gsM n).take ((gsM n).map (grpV n)).length)) → look D (memI n g) = some (DV C n g) := by
      rw [forO (n := r) (A' := B) rfl hBr]
      refine for_end (fun i σ A' => ∃ o5 o6 o7 o8 o9 D, σ = [some (bookV bk), some (rowI l), some (.ref r), some (.ref n3), some (.int ((k + 1 : Nat) : Int)), o5, o6, o7, o8, o9] ∧ Ex A A' ∧ A'[r]? = some (.lst ((gsM n).map (grpV n))) ∧ A'[n3]? = some (.dT false (encD ek3 AV.int D)) ∧ (keysD D).Nodup ∧ D.length ≤ k * 1024 + i ∧
          ∀ g ∈ gsM n, (pc n g ≤ k ∨ (pc n g = k + 1 ∧ g ∈ (gsM n).take i)) → look D (memI n g) = some (DV C n g))
        ⟨o5, o6, o7, o8, o9, D, rfl, exB, hBr, hB3, nd, by omega, fun g hg hp => inv g hg (by rcases hp with hp | ⟨_, hp⟩; exact hp; cases hp)⟩ (fun i σ A' _ hi => by obtain ⟨_, _, _, _, _, _, _, _, h, _⟩ := hi; exact chk_obj h) (fun i x σ B2 hx hi => ?_)
      obtain ⟨o5, o6, o7, o8, o9, D, rfl, exB, hBr, hB3, nd, dl, inv⟩ := hi
      rw [List.getElem?_map] at hx
      obtain ⟨g, hgi, rfl⟩ := Option.map_eq_some_iff.mp hx
      have hgm := List.mem_of_getElem? hgi
      have hil : i < (gsM n).length := (List.getElem?_eq_some_iff.mp hgi).1
      obtain ⟨g0, g1⟩ := gmem g hgm
      have htake : ∀ q, q ∈ (gsM n).take (i + 1) → q ∈ (gsM n).take i ∨ q = g := fun q hq => by
        rw [take_get hgi] at hq
        rcases List.mem_append.mp hq with h | h
        · exact .inl h
        · exact .inr (List.mem_singleton.mp h)
      refine ⟨_, _, rfl, ?_⟩
      by_cases hp : pc n g = k + 1
      · -- the group's turn
        have c1 : evL c (.comp [9] (.v (.var 5)) (.name 9) (.lit (.bl true)) (.ix (.var 1) (.var 9))) [some (bookV bk), some (rowI l), some (.ref r), some (.ref n3), some (.int ((k + 1 : Nat) : Int)), some (grpV n g), o6, o7, o8, o9] B2 = .ok ((selL l g).map .int) B2 := by
          rw [compMapV (L := mem n g) (g := fun (i : Nat) => AV.int (i : Int)) (fun i => .int (l.getD i 0)) (by rw [← grp_nat]; rfl) (by rw [mem_len]; have := pc_le n g; exact Nat.le_of_lt (size_big (by omega))) (fun i hi => ?_)]
          · unfold selL; rw [hn, List.map_map]; rfl
          · have hi' := (mem_mem.mp hi).1
            have := rowI_at (l := l) (i := i) (List.getElem?_eq_getElem (by omega)) B2
            refine ⟨_, rfl, ?_⟩
            have e : l.getD i 0 = l[i]'(by omega) := by rw [List.getD_eq_getElem?_getD, List.getElem?_eq_getElem (by omega)]; rfl
            rw [e]
            simp [wipeS, this]
        have c2 := ci B2 (selL l g) (sel_in hl g)
        rw [hCm g g1] at c2
        have c3 : evL c (.comp [8] (.v (.var 2)) (.name 8) (.and (.cmp .lt (.bif .len [(.var 8)]) (.var 4)) (.call "is_part" [(.var 8), (.var 5)] [])) (.ix (.var 3) (.var 8))) [some (bookV bk), some (rowI l), some (.ref r), some (.ref n3), some (.int ((k + 1 : Nat) : Int)), some (grpV n g), some (.int (C g)), o7, o8, o9] B2 =
            .ok (((gsM n).filter fun q => decide (pc n q < pc n g) && Sh.sub n q g).map fun q => .int (DV C n q)) B2 := by
          refine compFiltO (fun q => decide (pc n q < pc n g) && Sh.sub n q g) (fun q => .int (DV C n q)) rfl hBr (Nat.le_of_lt (size_big (by omega))) fun q hq => ⟨_, rfl, ?_, fun hpq => ?_⟩
          · have l1 := len_grp n q B2
            have p1 := pi B2 n q g (by omega)
            by_cases hlt : pc n q < pc n g
            · have : ((pc n q : Nat) : Int) < ((k + 1 : Nat) : Int) := by omega
              simp only [wipeS, List.set_cons_zero, List.set_cons_succ, evE_and, evE_cmp, evE_bif, evEs_cons, evE_var, List.getElem?_cons_zero, List.getElem?_cons_succ, bind_ok, kCons_eq, evEs_nil, kCons2_eq, l1, kCmp_eq, kCmp2_eq, lt_int, decide_eq_true this, kAnd_eq, truth_bl, evE_call, kCall_eq, List.append_nil, p1, decide_eq_true hlt, Bool.true_and]
            · have : ¬ ((pc n q : Nat) : Int) < ((k + 1 : Nat) : Int) := by omega
              simp only [wipeS, List.set_cons_zero, List.set_cons_succ, evE_and, evE_cmp, evE_bif, evEs_cons, evE_var, List.getElem?_cons_zero, List.getElem?_cons_succ, bind_ok, kCons_eq, evEs_nil, kCons2_eq, l1, kCmp_eq, kCmp2_eq, lt_int, decide_eq_false this, kAnd_eq, truth_bl, decide_eq_false hlt, Bool.false_and]
          · simp only [Bool.and_eq_true, decide_eq_true_eq] at hpq
            have := ix3 hB3 (n := n) (m := q) (inv q hq (.inl (by omega)))
            simp [wipeS, this]
        have hsum : C g - (((gsM n).filter fun q => decide (pc n q < pc n g) && Sh.sub n q g).map fun q => DV C n q).sum = DV C n g := by
          rw [filter_sum, gsM_sum]
          have e : sm (2 ^ n) (fun p => if p ≠ 0 then (if (decide (pc n p < pc n g) && Sh.sub n p g) = true then DV C n p else 0) else 0) = sm (2 ^ n) fun p => if p ≠ 0 ∧ Sh.sub n p g = true ∧ pc n p < pc n g then DV C n p else 0 := sm_congr fun p _ => by
            by_cases h1 : p = 0 <;> by_cases h2 : Sh.sub n p g = true <;> by_cases h4 : pc n p < pc n g <;> simp [h1, h2, h4]
          rw [e, inside_sum g1 hD0]; omega
        generalize hL : ((gsM n).filter fun q => decide (pc n q < pc n g) && Sh.sub n q g) = L at c3 hsum
        have b1 := get_new B2 (.lst (L.map fun q => .int (DV C n q)))
        have sm1 : aBif (.lfof .sum) [.ref B2.length] (B2 ++ [.lst (L.map fun q => .int (DV C n q))]) = .ok (.int (L.map fun q => DV C n q).sum) (B2 ++ [.lst (L.map fun q => .int (DV C n q))]) := by
          have i1 : intsOf (L.map fun q => AV.int (DV C n q)) = some (L.map fun q => DV C n q) := by
            have := intsOf_map (L.map fun q => DV C n q)
            rw [List.map_map] at this; exact this
          simp only [aBif, lstOf, b1, aLF, i1]
        have hBr' := get_app hBr [AO.lst (L.map fun q => .int (DV C n q))]
        have hB3' := get_app hB3 [AO.lst (L.map fun q => .int (DV C n q))]
        have exB' := exB.app [AO.lst (L.map fun q => .int (DV C n q))]
        have pt := put3 hB3' nd (size_big (by omega)) n g (DV C n g)
        generalize hE : B2 ++ [AO.lst (L.map fun q => .int (DV C n q))] = B3 at sm1 hBr' hB3' exB' pt
        refine ⟨[some (bookV bk), some (rowI l), some (.ref r), some (.ref n3), some (.int ((k + 1 : Nat) : Int)), some (grpV n g), some (.int (C g)), some (.ref B2.length), o8, o9], _, ?_, _, _, _, _, _, addD ovr D (memI n g) (DV C n g), rfl, exB'.set (n := n3) (by omega) (.dT false (encD ek3 AV.int (addD ovr D (memI n g) (DV C n g)))), get_set_ne hBr' (by omega), get_set (get_lt hB3'), addD_nodup _ nd, Nat.le_trans (addD_len _) (by omega), fun q hq hd => ?_⟩
        · have hpi : ((pc n g : Nat) : Int) = ((k + 1 : Nat) : Int) := by omega
          simp only [evSs_cons, evS_if, evE_cmp, evE_bif, evEs_cons, evE_var, List.getElem?_cons_zero, List.getElem?_cons_succ, List.set_cons_zero, List.set_cons_succ, bind_ok, kCons_eq, evEs_nil, kCons2_eq, len_grp, kCmp_eq, kCmp2_eq, eq_int, decide_eq_true hpi, tru_bl, out_ok, kIf_eq, if_true, evS_asg, evE_call, evE_lf, c1, aLF, kCall_eq, List.append_nil]
          rw [show AV.tup ((selL l g).map AV.int) = rowI (selL l g) from rfl, c2]
          simp only [evSs_cons, evS_asg, evE_var, List.getElem?_cons_zero, List.getElem?_cons_succ, List.set_cons_zero, List.set_cons_succ, bind_ok, evEs_cons, kCons_eq, evEs_nil, kCons2_eq, out_ok, kAsg_eq, evTg_name, seq_next, kSs_eq, evE_new, c3, kNew_eq, hE, evE_bin, kBin_eq, evE_bif, sm1, sub_int, hsum, evTg_sub, kTsub_eq, kTsub2_eq, pt, evSs_nil]
        · rw [look_put]
          by_cases hqg : q = g
          · subst hqg; rw [if_pos rfl]
          · rw [if_neg (fun z => hqg (memI_inj (gmem q hq).2 g1 z.symm))]
            refine inv q hq ?_
            rcases hd with hd | ⟨h1, h2⟩
            · exact .inl hd
            · rcases htake q h2 with h | h
              · exact .inr ⟨h1, h⟩
              · exact absurd h hqg
      · refine ⟨[some (bookV bk), some (rowI l), some (.ref r), some (.ref n3), some (.int ((k + 1 : Nat) : Int)), some (grpV n g), o6, o7, o8, o9], B2, ?_, _, _, _, _, _, D, rfl, exB, hBr, hB3, nd, by omega, fun q hq hd => inv q hq ?_⟩
        · have hpi : ¬ ((pc n g : Nat) : Int) = ((k + 1 : Nat) : Int) := by omega
          simp only [evSs_cons, evS_if, evE_cmp, evE_bif, evEs_cons, evE_var, List.getElem?_cons_zero, List.getElem?_cons_succ, List.set_cons_zero, List.set_cons_succ, bind_ok, kCons_eq, evEs_nil, kCons2_eq, len_grp, kCmp_eq, kCmp2_eq, eq_int, decide_eq_false hpi, tru_bl, out_ok, kIf_eq, Bool.false_eq_true, if_false, seq_next, kSs_eq, evSs_nil]
        · rcases hd with hd | ⟨h1, h2⟩
          · exact .inl hd
          · rcases htake q h2 with h | h
            · exact .inr ⟨h1, h⟩
            · subst h; exact absurd h1 hp
    obtain ⟨σ2, B2, i1, o5', o6', o7', o8', o9', D', rfl, exB', hBr', hB3', nd', dl', inv'⟩ := inner
    rw [List.length_map] at dl' inv'
    rw [List.take_length] at inv'
    refine ⟨[some (bookV bk), some (rowI l), some (.ref r), some (.ref n3), some (.int ((k + 1 : Nat) : Int)), o5', o6', o7', o8', o9'], B2, ?_, _, _, _, _, _, _, D', rfl, exB', hBr', hB3', nd', by omega, fun g hg hp => inv' g hg (by by_cases h : pc n g ≤ k; exact .inl h; exact .inr ⟨by omega, hg⟩)⟩
    simp only [evSs_cons, List.set_cons_zero, List.set_cons_succ, i1, seq_next, kSs_eq, evSs_nil]
  obtain ⟨σ', A', l1, o4, o5, o6, o7, o8, o9, D, rfl, ex, hr', h3', nd, dl, inv⟩ := loop
  have e9 : ((List.range ((n : Int) + 1 - 1).toNat).map fun (k : Nat) => AV.int (1 + k)).length = n := by rw [List.length_map, List.length_range]; omega
  rw [e9] at inv
  have fin : evL c (.comp [5] (.v (.var 2)) (.name 5) (.lit (.bl true)) (.tup [(.var 5), (.ix (.var 3) (.var 5))])) [some (bookV bk), some (rowI l), some (.ref r), some (.ref n3), o4, o5, o6, o7, o8, o9] A' = .ok ((gsM n).map fun g => .tup [grpV n g, .int (DV C n g)]) A' := by
    refine compMapI (fun g => .tup [grpV n g, .int (DV C n g)]) rfl hr' (Nat.le_of_lt (size_big (by omega))) fun g hg => ⟨_, rfl, ?_⟩
    have := ix3 h3' (n := n) (m := g) (inv g hg (pc_le n g))
    simp [wipeS, this, two_le']
  refine ⟨A', ?_, ex⟩
  subst hn3
  simp [bDivs, hlen, e1, l1, fin, aLF, divV]
end
end Ev


set_option linter.all false
set_option maxRecDepth 100000
set_option maxHeartbeats 8000000
namespace Ev
open PySem L2 Sh

/-! ### the law's groups and dividends -/
def bLgroups : List S := [.asg (.name 1) (.new (.disp [(.tup [])])),
    .for_ (.name 2) (.range1 (.bif .len [(.var 0)])) [.asg (.name 1) (.bin .add (.var 1) (.new (.comp [3] (.v (.var 1)) (.name 3) (.lit (.bl true)) (.bin .add (.var 3) (.tup [(.var 2)])))))],
    .ret (.var 1)]
def bLdivs : List S := [.asg (.name 2) (.bif .listof [(.var 0)]),
    .for_ (.name 3) (.range1 (.var 1)) [.for_ (.name 4) (.range1 (.bif .len [(.var 2)])) [.if_ (.cmp .eq (.bin .band (.bin .shr (.var 4) (.var 3)) (.lit (.int 1))) (.lit (.int 1))) [.augs (.var 2) (.var 4) .sub (.ix (.var 2) (.bin .sub (.var 4) (.bin .shl (.lit (.int 1)) (.var 3))))] []]],
    .ret (.var 2)]
def grpL' (n : Nat) : List AV := (List.range (2 ^ n)).map (grpV n)
theorem grpL_succ (n : Nat) : grpL' (n + 1) = grpL' n ++ (List.range (2 ^ n)).map fun m => .tup ((memI n m).map .int ++ [.int (n : Int)]) := by
  unfold grpL'
  rw [Nat.pow_succ, Nat.mul_two, List.range_add, List.map_append, List.map_map]
  congr 1
  · refine List.map_congr_left fun m hm => ?_
    unfold grpV memI
    rw [mem_lo (List.mem_range.mp hm)]
  · refine List.map_congr_left fun m hm => ?_
    show grpV (n + 1) (2 ^ n + m) = _
    unfold grpV memI
    rw [mem_hi (List.mem_range.mp hm), List.map_append, List.map_append]; rfl
def lgroupsIs (c : Cfg) : Prop := ∀ A (l : List Int), l.length ≤ 10 → ∃ A' r, c.fn "_law_groups" [rowI l] A = .ok (.ref r) A' ∧ Ex A A' ∧ A.length ≤ r ∧ A'[r]? = some (.lst (grpL' l.length))
theorem lgroups_ev (c : Cfg) (A : AH) {l : List Int} (hz : l.length ≤ 10) : ∃ A' r, (evSs c bLgroups [some (rowI l), none, none, none] A).fin = .ok (.ref r) A' ∧ Ex A A' ∧ A.length ≤ r ∧ A'[r]? = some (.lst (grpL' l.length)) := by
  have z1 : 1 ≤ sizeLine := Nat.le_of_lt (size_big (by omega))
  have loop : ∃ σ' A', evS c (.for_ (.name 2) (.range1 (.bif .len [(.var 0)])) [.asg (.name 1) (.bin .add (.var 1) (.new (.comp [3] (.v (.var 1)) (.name 3) (.lit (.bl true)) (.bin .add (.var 3) (.tup [(.var 2)])))))]) [some (rowI l), some (.ref A.length), none, none] (A ++ [.lst [.tup []]]) = .next σ' A' ∧
      ∃ r o2 o3, σ' = [some (rowI l), some (.ref r), o2, o3] ∧ Ex A A' ∧ A.length ≤ r ∧ A'[r]? = some (.lst (grpL' ((List.range l.length).map fun (k : Nat) => AV.int (k : Int)).length)) := by
    rw [forN (n := l.length) (by simp [len_row]) (by omega)]
    refine for_end (fun j σ A' => ∃ r o2 o3, σ = [some (rowI l), some (.ref r), o2, o3] ∧ Ex A A' ∧ A.length ≤ r ∧ A'[r]? = some (.lst (grpL' j))) ⟨A.length, none, none, rfl, (Ex.refl A).app _, Nat.le_refl _, get_new _ _⟩ (fun _ _ _ _ _ => rfl) (fun j x σ A1 hx hj => ?_)
    obtain ⟨r, o2, o3, rfl, ex, hr, hg⟩ := hj
    obtain ⟨hjn, rfl⟩ := range_get hx
    have pj : 2 ^ j ≤ 1024 := Nat.pow_le_pow_right (show 0 < 2 by decide) (show j ≤ 10 by omega)
    have e1 : evL c (.comp [3] (.v (.var 1)) (.name 3) (.lit (.bl true)) (.bin .add (.var 3) (.tup [(.var 2)]))) [some (rowI l), some (.ref r), some (.int (j : Int)), o3] A1 = .ok ((List.range (2 ^ j)).map fun m => .tup ((memI j m).map .int ++ [.int (j : Int)])) A1 := by
      refine compMapI (c := c) (own := [3]) (t := .name 3) (elt := .bin .add (.var 3) (.tup [(.var 2)])) (σ := [some (rowI l), some (.ref r), some (.int (j : Int)), o3]) (e := .var 1) (L := List.range (2 ^ j)) (g := grpV j) (fun m => .tup ((memI j m).map .int ++ [.int (j : Int)])) rfl hg (by rw [List.length_range]; exact Nat.le_of_lt (size_big (by omega))) fun m hm => ⟨_, rfl, ?_⟩
      have ad : aBin .add (grpV j m) (.tup [.int (j : Int)]) A1 = .ok (.tup ((memI j m).map .int ++ [.int (j : Int)])) A1 := add_tupL (by
        rw [List.length_map, memI_len]
        have := pc_le j m
        exact Nat.le_of_lt (size_big (by simp; omega)))
      simp [wipeS, z1, ad]
    have g1 := get_app hg [AO.lst ((List.range (2 ^ j)).map fun m => .tup ((memI j m).map .int ++ [.int (j : Int)]))]
    have g2 := get_new A1 (.lst ((List.range (2 ^ j)).map fun m => .tup ((memI j m).map .int ++ [.int (j : Int)])))
    have a2 := add_lst g1 g2 (by unfold grpL'; simp only [List.length_map, List.length_range]; exact Nat.le_of_lt (size_big (by omega)))
    rw [← grpL_succ] at a2
    have exA := (ex.app [AO.lst ((List.range (2 ^ j)).map fun m => .tup ((memI j m).map .int ++ [.int (j : Int)]))]).app [AO.lst (grpL' (j + 1))]
    have gn := get_new (A1 ++ [AO.lst ((List.range (2 ^ j)).map fun m => .tup ((memI j m).map .int ++ [.int (j : Int)]))]) (.lst (grpL' (j + 1)))
    have ln := ex.len
    have hB : A.length ≤ (A1 ++ [AO.lst ((List.range (2 ^ j)).map fun m => .tup ((memI j m).map .int ++ [.int (j : Int)]))]).length := by simp; omega
    generalize (A1 ++ [AO.lst ((List.range (2 ^ j)).map fun m => .tup ((memI j m).map .int ++ [.int (j : Int)]))]).length = r2 at a2 gn hB
    refine ⟨_, _, rfl, [some (rowI l), some (.ref r2), some (.int (j : Int)), o3], _, ?_, r2, _, _, rfl, exA, hB, gn⟩
    simp only [evSs_cons, evS_asg, evE_bin, evE_var, List.getElem?_cons_zero, List.getElem?_cons_succ, List.set_cons_zero, List.set_cons_succ, bind_ok, kBin_eq, evE_new, e1, kNew_eq, a2, out_ok, kAsg_eq, evTg_name, seq_next, kSs_eq, evSs_nil]
  obtain ⟨σ', A', h1, r, o2, o3, rfl, ex, hr, hg⟩ := loop
  rw [range_len] at hg
  exact ⟨A', r, by simp [bLgroups, z1, h1], ex, hr, hg⟩
theorem costs_lF (bk : List (List (Int × Int))) (l : List Int) : (grpL bk l).map coV = (lF (2 ^ l.length) fun m => (Sh.G bk l m).2).map .int := by
  rw [grpL_range]; unfold lF; rw [List.map_map, List.map_map]; rfl
def ldivsIs (c : Cfg) : Prop := ∀ A (C : Nat → Int) (n nC : Nat), n ≤ 10 → A[nC]? = some (.lst ((lF (2 ^ n) C).map .int)) → ∃ A' r, c.fn "_law_dividends" [.ref nC, .int n] A = .ok (.ref r) A' ∧ Ex A A' ∧ A.length ≤ r ∧ A'[r]? = some (.lst ((lF (2 ^ n) (DV C n)).map .int))
theorem ldivs_ev (c : Cfg) (A : AH) {C : Nat → Int} {n nC : Nat} (hz : n ≤ 10) (hC : A[nC]? = some (.lst ((lF (2 ^ n) C).map .int))) : ∃ A' r, (evSs c bLdivs [some (.ref nC), some (.int n), none, none, none] A).fin = .ok (.ref r) A' ∧ Ex A A' ∧ A.length ≤ r ∧ A'[r]? = some (.lst ((lF (2 ^ n) (DV C n)).map .int)) := by
  have pN : 2 ^ n ≤ 1024 := Nat.pow_le_pow_right (show 0 < 2 by decide) hz
  have lo : aBif .listof [.ref nC] A = .ok (.ref A.length) (A ++ [.lst ((lF (2 ^ n) C).map .int)]) := by simp only [aBif, seqOf, hC]
  have g0 := get_new A (.lst ((lF (2 ^ n) C).map .int))
  have loop : ∃ σ' A', evS c (.for_ (.name 3) (.range1 (.var 1)) [.for_ (.name 4) (.range1 (.bif .len [(.var 2)])) [.if_ (.cmp .eq (.bin .band (.bin .shr (.var 4) (.var 3)) (.lit (.int 1))) (.lit (.int 1))) [.augs (.var 2) (.var 4) .sub (.ix (.var 2) (.bin .sub (.var 4) (.bin .shl (.lit (.int 1)) (.var 3))))] []]])
      [some (.ref nC), some (.int n), some (.ref A.length), none, none] (A ++ [.lst ((lF (2 ^ n) C).map .int)]) = .next σ' A' ∧ ∃ o3 o4, σ' = [some (.ref nC), some (.int n), some (.ref A.length), o3, o4] ∧ Ex A A' ∧ A'[A.length]? = some (.lst ((lF (2 ^ n) (DV C ((List.range n).map fun (k : Nat) => AV.int (k : Int)).length)).map .int)) := by
    rw [forN (n := n) (by simp) (by omega)]
    refine for_end (fun j σ A' => ∃ o3 o4, σ = [some (.ref nC), some (.int n), some (.ref A.length), o3, o4] ∧ Ex A A' ∧ A'[A.length]? = some (.lst ((lF (2 ^ n) (DV C j)).map .int))) ⟨none, none, rfl, (Ex.refl A).app _, g0⟩ (fun _ _ _ _ _ => rfl) (fun j x σ A1 hx hj => ?_)
    obtain ⟨o3, o4, rfl, ex, hg⟩ := hj
    obtain ⟨hjn, rfl⟩ := range_get hx
    refine ⟨_, _, rfl, ?_⟩
    have inner : ∃ σ' A', evS c (.for_ (.name 4) (.range1 (.bif .len [(.var 2)])) [.if_ (.cmp .eq (.bin .band (.bin .shr (.var 4) (.var 3)) (.lit (.int 1))) (.lit (.int 1))) [.augs (.var 2) (.var 4) .sub (.ix (.var 2) (.bin .sub (.var 4) (.bin .shl (.lit (.int 1)) (.var 3))))] []])
        [some (.ref nC), some (.int n), some (.ref A.length), some (.int (j : Int)), o4] A1 = .next σ' A' ∧ ∃ o4, σ' = [some (.ref nC), some (.int n), some (.ref A.length), some (.int (j : Int)), o4] ∧ Ex A A' ∧
          A'[A.length]? = some (.lst ((lF (2 ^ n) fun m => if m < ((List.range (2 ^ n)).map fun (k : Nat) => AV.int (k : Int)).length then DV C (j + 1) m else DV C j m).map .int)) := by
      have ll := len_ref hg
      rw [List.length_map, lF_len] at ll
      rw [forN (n := 2 ^ n) (by simpa using ll) (by omega)]
      refine for_end (fun g σ A' => ∃ o4, σ = [some (.ref nC), some (.int n), some (.ref A.length), some (.int (j : Int)), o4] ∧ Ex A A' ∧ A'[A.length]? = some (.lst ((lF (2 ^ n) fun m => if m < g then DV C (j + 1) m else DV C j m).map .int))) ⟨o4, rfl, ex, by rw [hg]; exact lstF fun m _ => by simp⟩ (fun _ _ _ _ _ => rfl) (fun g x σ A2 hx hi => ?_)
      obtain ⟨o4, rfl, ex2, h2⟩ := hi
      obtain ⟨hgl, rfl⟩ := range_get hx
      obtain ⟨b1, b2⟩ := bit_int g j A2
      refine ⟨_, _, rfl, ?_⟩
      by_cases ht : g.testBit j = true
      · have hge := tb_ge ht
        have p2 := Nat.two_pow_pos j
        rw [ht] at b2
        have q1 := ix_ints h2 (i := g) (by rw [lF_len]; exact hgl)
        have q2 := ix_ints h2 (i := g - 2 ^ j) (by rw [lF_len]; omega)
        rw [lF_get _ hgl, if_neg (by omega)] at q1
        have hunset : (g - 2 ^ j).testBit j = false := by
          cases hb : (g - 2 ^ j).testBit j with
          | false => rfl
          | true =>
            have e := Nat.testBit_eq_decide_div_mod_eq (x := g - 2 ^ j) (i := j)
            have e' := Nat.testBit_eq_decide_div_mod_eq (x := g) (i := j)
            rw [hb] at e; rw [ht] at e'
            have e := of_decide_eq_true e.symm
            have e' := of_decide_eq_true e'.symm
            have : g = (g - 2 ^ j) + 2 ^ j := by omega
            rw [this, Nat.add_div_right _ p2] at e'
            omega
        have dl : DV C (j + 1) (g - 2 ^ j) = DV C j (g - 2 ^ j) := by
          show DV C j (g - 2 ^ j) - _ = _
          rw [hunset]; simp
        rw [lF_get _ (by omega), if_pos (by omega), dl] at q2
        have q3 : ∀ v, aSet (.ref A.length) (.int (g : Int)) (.int v) A2 = _ := fun v => set_ints h2 (i := g) (by rw [lF_len]; exact hgl)
        have e2 : ((g - 2 ^ j : Nat) : Int) = (g : Int) - ((2 ^ j : Nat) : Int) := by omega
        rw [e2] at q2
        have sh := fun B => shl1 j B (by omega)
        refine ⟨[some (.ref nC), some (.int n), some (.ref A.length), some (.int (j : Int)), some (.int (g : Int))], A2.set A.length (.lst ((lF (2 ^ n) fun m => if m < g + 1 then DV C (j + 1) m else DV C j m).map .int)), ?_, _, rfl, ex2.set (Nat.le_refl _) _, get_set (get_lt h2)⟩
        have es : (lF (2 ^ n) fun m => if m < g then DV C (j + 1) m else DV C j m).set g (DV C j g - DV C j (g - 2 ^ j)) = lF (2 ^ n) fun m => if m < g + 1 then DV C (j + 1) m else DV C j m := by
          rw [lF_set]
          refine lF_congr fun m _ => ?_
          by_cases e : m = g
          · subst e
            rw [if_pos rfl, if_pos (by omega)]
            show _ = DV C j m - (if m.testBit j then DV C j (m - 2 ^ j) else 0)
            rw [ht]; rfl
          · have : (m < g) ↔ (m < g + 1) := by omega
            simp only [if_neg e, this]
        rw [← es]
        simp only [evSs_cons, evS_if, evE_cmp, evE_bin, evE_var, evE_lit, List.getElem?_cons_zero, List.getElem?_cons_succ, List.set_cons_zero, List.set_cons_succ, bind_ok, kBin_eq, b1, b2, kCmp_eq, kCmp2_eq, eq_int, if_true, tru_bl, out_ok, kIf_eq, evSs_nil, seq_next, kSs_eq, evS_augs, kAugs_eq, kAugs2_eq, mthTy_ref h2, q1, evE_ix, kIx_eq, sh, sub_int, kIx2_eq, q2, kAugs3_eq, augsub_int, kAugs4_eq, q3, decide_true]
      · have ht : g.testBit j = false := by simpa using ht
        rw [ht] at b2
        refine ⟨[some (.ref nC), some (.int n), some (.ref A.length), some (.int (j : Int)), some (.int (g : Int))], A2, ?_, _, rfl, ex2, ?_⟩
        · simp only [evSs_cons, evS_if, evE_cmp, evE_bin, evE_var, evE_lit, List.getElem?_cons_zero, List.getElem?_cons_succ, List.set_cons_zero, List.set_cons_succ, bind_ok, kBin_eq, b1, b2, kCmp_eq, kCmp2_eq, eq_int, tru_bl, out_ok, kIf_eq, evSs_nil, seq_next, kSs_eq]
          rfl
        · rw [h2]
          refine lstF fun m _ => ?_
          by_cases e : m = g
          · subst e
            rw [if_neg (by omega), if_pos (by omega)]
            show _ = DV C j m - (if m.testBit j then DV C j (m - 2 ^ j) else 0)
            rw [ht]; simp
          · have : (m < g) ↔ (m < g + 1) := by omega
            simp only [this]
    obtain ⟨σ2, A2, i1, o4', rfl, ex2, h2⟩ := inner
    rw [range_len] at h2
    refine ⟨[some (.ref nC), some (.int n), some (.ref A.length), some (.int (j : Int)), o4'], A2, ?_, _, _, rfl, ex2, ?_⟩
    · simp only [evSs_cons, List.set_cons_zero, List.set_cons_succ, i1, seq_next, kSs_eq, evSs_nil]
    · rw [h2]; exact lstF fun m hm => if_pos hm
  obtain ⟨σ', A', h1, o3, o4, rfl, ex, hg⟩ := loop
  rw [range_len] at hg
  exact ⟨A', A.length, by simp [bLdivs, lo, h1], ex, Nat.le_refl _, hg⟩
/-! ### the law's numbers -/
def bNumbers : List S := [.if_ (.not (.call "_law_is_shape" [(.var 0), (.bin .sub (.bif .len [(.var 1)]) (.lit (.int 1)))] [])) [.ret (.lit (.non))] [],
    .asg (.name 2) .dnew,
    .asg (.name 3) (.tup []),
    .for_ (.name 4) (.v (.var 0)) [.if_ (.or (.not (.call "_law_is_shape" [(.var 4), (.lit (.int 2))] [])) (.or (.not (.call "_law_is_ints" [(.ix (.var 4) (.lit (.int 0)))] [])) (.not (.call "_law_is_int" [(.ix (.var 4) (.lit (.int 1)))] [])))) [.ret (.lit (.non))] [],
      .if_ (.not (.cmp .lt (.var 3) (.ix (.var 4) (.lit (.int 0))))) [.ret (.lit (.non))] [],
      .asg (.name 3) (.ix (.var 4) (.lit (.int 0))),
      .asg (.sub (.var 2) (.var 3)) (.ix (.var 4) (.lit (.int 1)))],
    .if_ (.not (.lf .all (.comp [5] (.v (.sl (.var 1) (some (.lit (.int 1))) none)) (.name 5) (.lit (.bl true)) (.cmp .in_ (.var 5) (.var 2))))) [.ret (.lit (.non))] [],
    .ret (.bin .add (.new (.disp [(.lit (.int 0))])) (.new (.comp [5] (.v (.sl (.var 1) (some (.lit (.int 1))) none)) (.name 5) (.lit (.bl true)) (.ix (.var 2) (.var 5)))))]
theorem lexI_tot : ∀ a b : List Int, a ≠ b → HT.lexLt b a = false → HT.lexLt a b = true
  | [], [], h, _ => absurd rfl h
  | [], _ :: _, _, _ => rfl
  | _ :: _, [], _, h => (by cases h)
  | x :: xs, y :: ys, hne, h => by
    rw [HT.lexLt_cons] at h ⊢
    by_cases e : y = x
    · subst e
      rw [if_pos rfl] at h ⊢
      exact lexI_tot xs ys (fun z => hne (by rw [z])) h
    · rw [if_neg e] at h
      rw [if_neg (Ne.symm e)]
      have := of_decide_eq_false h
      exact decide_eq_true (by omega)
theorem gsM_nodup (n : Nat) : (gsM n).Nodup := by
  rw [(gsM_ok n).2.perm.nodup_iff]
  have : (List.range (2 ^ n - 1)).Nodup := List.nodup_range
  exact List.Pairwise.map _ (fun a b h e => h (by omega)) this
theorem gsM_lt {n i a b : Nat} (ha : (gsM n)[i]? = some a) (hb : (gsM n)[i + 1]? = some b) : HT.lexLt (memI n a) (memI n b) = true := by
  obtain ⟨hi, ea⟩ := List.getElem?_eq_some_iff.mp ha
  obtain ⟨hj, eb⟩ := List.getElem?_eq_some_iff.mp hb
  have s := (List.pairwise_iff_getElem.mp (gsM_ok n).1) i (i + 1) hi hj (by omega)
  have nd := (List.pairwise_iff_getElem.mp (gsM_nodup n)) i (i + 1) hi hj (by omega)
  rw [ea, eb] at s nd
  refine lexI_tot _ _ (fun e => nd (memI_inj (gsM_mem.mp (List.mem_of_getElem? ha)).2 (gsM_mem.mp (List.mem_of_getElem? hb)).2 e)) s
theorem compMapI2 {c : Cfg} {own : List Nat} {t : T} {elt : E} {σ : Sl} {A A' : AH} {n : Nat} {e : E} {α : Type} {L : List α} {g : α → AV} (f : α → AV) (h : evE c e σ A = .ok (.ref n) A') (h2 : A'[n]? = some (.lst (L.map g))) (hz : L.length ≤ sizeLine)
    (hs : ∀ x ∈ L, ∃ σ2, evTg c t (g x) (wipeS σ own) A' = .ok σ2 A' ∧ evE c elt σ2 A' = .ok (f x) A') : evL c (.comp own (.v e) t (.lit (.bl true)) elt) σ A = .ok (L.map f) A' := by
  rw [compO h h2]
  have := comp_filt (chk := (Itm.obj n (L.map g)).chk) (tg := fun x A => evTg c t x (wipeS σ own) A) (q := fun σ A => (evE c (.lit (.bl true)) σ A).bind tru) (elt := fun σ A => evE c elt σ A) (L := L) (g := g) (A := A') (fun _ => true) f hz (chk_obj h2) (fun x hx => by
    obtain ⟨σ2, a, b⟩ := hs x hx
    exact ⟨σ2, a, rfl, fun _ => b⟩)
  rw [List.filter_eq_self.mpr (fun _ _ => rfl)] at this
  exact this
theorem good_grp (A : AH) {n : Nat} (hn : n ≤ 1000) (m : Nat) : Good A (grpV n m) := .tup (fun z hz => by
  obtain ⟨i, _, rfl⟩ := List.mem_map.mp hz; exact .int i) (by rw [List.length_map, memI_len]; have := pc_le n m; exact Nat.le_of_lt (size_big (by omega)))
theorem good_gp (A : AH) {n : Nat} (hn : n ≤ 1000) (m : Nat) (x : Int) : Good A (.tup [grpV n m, .int x]) := .tup (fun z hz => by
  rcases List.mem_cons.mp hz with h | h
  · rw [h]; exact good_grp A hn m
  · rw [List.mem_singleton.mp h]; exact .int x) two_le'
theorem good_div (A : AH) {n : Nat} (hn : n ≤ 10) (dv : Nat → Int) : Good A (divV n dv) := .tup (fun z hz => by
  obtain ⟨g, _, rfl⟩ := List.mem_map.mp hz
  exact good_gp A (by omega) g _) (by
    rw [List.length_map, gsM_len]
    have : 2 ^ n ≤ 1024 := Nat.pow_le_pow_right (show 0 < 2 by decide) hn
    exact Nat.le_of_lt (size_big (by omega)))
def shapeIs (c : Cfg) : Prop := ∀ A xs (n : Int), Good A (.tup xs) → c.fn "_law_is_shape" [.tup xs, .int n] A = .ok (.bl (decide ((xs.length : Int) = n))) A
def intsIs (c : Cfg) : Prop := ∀ A x, Good A x → c.fn "_law_is_ints" [x] A = .ok (.bl (intsB x)) A
theorem intsB_grp (n m : Nat) : intsB (grpV n m) = true := by
  show ((memI n m).map AV.int).all isI = true
  rw [List.all_map, List.all_eq_true]
  intro x _; rfl
theorem grpL_tail (n : Nat) : (grpL' n).drop 1 = (List.range (2 ^ n - 1)).map fun k => grpV n (k + 1) := by
  unfold grpL'
  have p := Nat.two_pow_pos n
  obtain ⟨N, hN⟩ : ∃ N, 2 ^ n = N + 1 := ⟨2 ^ n - 1, by omega⟩
  rw [hN, List.range_succ_eq_map, List.map_cons, List.drop_one, List.tail_cons, List.map_map]
  rfl
def numbersIs (c : Cfg) : Prop := ∀ A (n r : Nat) (dv : Nat → Int), n ≤ 10 → dv 0 = 0 → A[r]? = some (.lst (grpL' n)) → ∃ A' r', c.fn "_law_numbers" [divV n dv, .ref r] A = .ok (.ref r') A' ∧ Ex A A' ∧ A.length ≤ r' ∧ A'[r']? = some (.lst ((lF (2 ^ n) dv).map .int))
theorem numbers_ev (c : Cfg) (sh : shapeIs c) (is : intsIs c) (ii : fnIs c "_law_is_int" isI) (A : AH) {n r : Nat} {dv : Nat → Int} (hz : n ≤ 10) (h0 : dv 0 = 0) (hg : A[r]? = some (.lst (grpL' n))) : ∃ A' r', (evSs c bNumbers [some (divV n dv), some (.ref r), none, none, none, none] A).fin = .ok (.ref r') A' ∧ Ex A A' ∧ A.length ≤ r' ∧ A'[r']? = some (.lst ((lF (2 ^ n) dv).map .int)) := by
  have pN : 2 ^ n ≤ 1024 := Nat.pow_le_pow_right (show 0 < 2 by decide) hz
  have pN0 := Nat.two_pow_pos n
  have z1 : 1 ≤ sizeLine := Nat.le_of_lt (size_big (by omega))
  have ll : aBif .len [.ref r] A = .ok (.int ((2 ^ n : Nat) : Int)) A := by
    have := len_ref hg
    rw [show (grpL' n).length = 2 ^ n by simp [grpL']] at this; exact this
  have s1 := sh A ((gsM n).map fun g => .tup [grpV n g, .int (dv g)]) (((2 ^ n : Nat) : Int) - 1) (good_div A hz dv)
  rw [List.length_map, gsM_len, decide_eq_true (by omega)] at s1
  have s1 : c.fn "_law_is_shape" [divV n dv, .int (((2 ^ n : Nat) : Int) - 1)] A = .ok (.bl true) A := s1
  have h2 := get_new A (.dT false [])
  have loop : ∃ σ' A', evS c (.for_ (.name 4) (.v (.var 0)) [.if_ (.or (.not (.call "_law_is_shape" [(.var 4), (.lit (.int 2))] [])) (.or (.not (.call "_law_is_ints" [(.ix (.var 4) (.lit (.int 0)))] [])) (.not (.call "_law_is_int" [(.ix (.var 4) (.lit (.int 1)))] [])))) [.ret (.lit (.non))] [],
      .if_ (.not (.cmp .lt (.var 3) (.ix (.var 4) (.lit (.int 0))))) [.ret (.lit (.non))] [],
      .asg (.name 3) (.ix (.var 4) (.lit (.int 0))),
      .asg (.sub (.var 2) (.var 3)) (.ix (.var 4) (.lit (.int 1)))]) [some (divV n dv), some (.ref r), some (.ref A.length), some (.tup []), none, none] (A ++ [.dT false []]) = .next σ' A' ∧
      ∃ bs o4 D, σ' = [some (divV n dv), some (.ref r), some (.ref A.length), some (.tup (bs.map .int)), o4, none] ∧ Ex A A' ∧ A'[A.length]? = some (.dT false (encD ek3 AV.int D)) ∧ (keysD D).Nodup ∧ D.length ≤ ((gsM n).map fun g => AV.tup [grpV n g, .int (dv g)]).length ∧
        (∀ g, (gsM n)[((gsM n).map fun g => AV.tup [grpV n g, .int (dv g)]).length]? = some g → HT.lexLt bs (memI n g) = true) ∧ ∀ g ∈ (gsM n).take ((gsM n).map fun g => AV.tup [grpV n g, .int (dv g)]).length, look D (memI n g) = some (dv g) := by
    rw [forV (xs := (gsM n).map fun g => AV.tup [grpV n g, .int (dv g)]) rfl]
    refine for_end (fun i σ A' => ∃ bs o4 D, σ = [some (divV n dv), some (.ref r), some (.ref A.length), some (.tup (bs.map .int)), o4, none] ∧ Ex A A' ∧ A'[A.length]? = some (.dT false (encD ek3 AV.int D)) ∧ (keysD D).Nodup ∧ D.length ≤ i ∧
        (∀ g, (gsM n)[i]? = some g → HT.lexLt bs (memI n g) = true) ∧ ∀ g ∈ (gsM n).take i, look D (memI n g) = some (dv g))
      ⟨[], none, [], rfl, (Ex.refl A).app _, h2, List.nodup_nil, Nat.le_refl _, fun g hg => ?_, fun g hg => (by cases hg)⟩ (fun _ _ _ _ _ => rfl) (fun i x σ B hx hi => ?_)
    · obtain ⟨a, b⟩ := gsM_mem.mp (List.mem_of_getElem? hg)
      have := memI_ne b a
      cases q : memI n g with
      | nil => exact absurd q this
      | cons x r => rfl
    obtain ⟨bs, o4, D, rfl, exB, hB, nd, dl, lt, inv⟩ := hi
    rw [List.getElem?_map] at hx
    obtain ⟨g, hgi, rfl⟩ := Option.map_eq_some_iff.mp hx
    have hgm := List.mem_of_getElem? hgi
    have hil : i < (gsM n).length := (List.getElem?_eq_some_iff.mp hgi).1
    rw [gsM_len] at hil
    have t1 := sh B [grpV n g, .int (dv g)] 2 (good_gp B (by omega) g (dv g))
    have t1 : c.fn "_law_is_shape" [.tup [grpV n g, .int (dv g)], .int 2] B = .ok (.bl true) B := t1
    have t2 := is B (grpV n g) (good_grp B (by omega) g)
    rw [intsB_grp] at t2
    have t3 : c.fn "_law_is_int" [.int (dv g)] B = .ok (.bl true) B := ii B (.int (dv g)) (.int _)
    have t4 : aCmp .lt (.tup (bs.map .int)) (grpV n g) B = some true := by
      show (match intsOf (bs.map .int), intsOf ((memI n g).map .int) with | some a, some b => some (HT.lexLt a b) | _, _ => none) = _
      rw [intsOf_map, intsOf_map]
      show some _ = _
      rw [lt g hgi]
    have i0 : aIx (.tup [grpV n g, .int (dv g)]) (.int 0) B = some (grpV n g) := by rw [ixTup]; exact atI0 _ _
    have i1 : aIx (.tup [grpV n g, .int (dv g)]) (.int 1) B = some (.int (dv g)) := by rw [ixTup]; exact atI1 _ _ _
    have pt := put3 hB nd (size_big (by omega)) n g (dv g)
    refine ⟨_, _, rfl, [some (divV n dv), some (.ref r), some (.ref A.length), some (.tup ((memI n g).map .int)), some (.tup [grpV n g, .int (dv g)]), none], B.set A.length (.dT false (encD ek3 AV.int (addD ovr D (memI n g) (dv g)))), ?_, memI n g, _, addD ovr D (memI n g) (dv g), rfl, exB.set (Nat.le_refl _) _, get_set (get_lt hB), addD_nodup _ nd, Nat.le_trans (addD_len _) (by omega), fun q hq => gsM_lt hgi hq, fun q hq => ?_⟩
    · simp only [evSs_cons, evS_if, evE_or, evE_not, evE_call, evEs_cons, evE_var, evE_lit, List.getElem?_cons_zero, List.getElem?_cons_succ, List.set_cons_zero, List.set_cons_succ, bind_ok, kCons_eq, evEs_nil, kCons2_eq, kCall_eq, List.append_nil, t1, kNot_eq, truth_bl, Bool.not_true, kOr_eq, evE_ix, kIx_eq, kIx2_eq, i0, i1, t2, t3, tru_bl, out_ok, kIf_eq, Bool.false_eq_true, if_false, evSs_nil, seq_next, kSs_eq, evE_cmp, kCmp_eq, kCmp2_eq, t4, evS_asg, kAsg_eq, evTg_name, evTg_sub, kTsub_eq, kTsub2_eq, pt]
      rfl
    · rw [look_put]
      have hq2 : q ∈ gsM n := List.mem_of_mem_take hq
      by_cases hqg : q = g
      · subst hqg; rw [if_pos rfl]
      · rw [if_neg (fun z => hqg (memI_inj (gsM_mem.mp hq2).2 (gsM_mem.mp hgm).2 z.symm))]
        rw [take_get hgi] at hq
        rcases List.mem_append.mp hq with h | h
        · exact inv q h
        · exact absurd (List.mem_singleton.mp h) hqg
  obtain ⟨σ', A1, l1, bs, o4, D, rfl, ex1, hD, nd, dl, _, inv⟩ := loop
  rw [List.length_map, List.take_length] at inv
  have hg1 := ex1.get hg
  have look1 : ∀ k, k < 2 ^ n - 1 → look D (memI n (k + 1)) = some (dv (k + 1)) := fun k hk => inv (k + 1) (gsM_mem.mpr ⟨by omega, by omega⟩)
  have sl : ∀ B, B[r]? = some (.lst (grpL' n)) → evE c (.sl (.var 1) (some (.lit (.int 1))) none) [some (divV n dv), some (.ref r), some (.ref A.length), some (.tup (bs.map .int)), o4, none] B = .ok (.ref B.length) (B ++ [.lst ((List.range (2 ^ n - 1)).map fun k => grpV n (k + 1))]) := fun B hB => by
    have : aSl (.ref r) (some 1) none B = .ok (.ref B.length) (B ++ [.lst ((grpL' n).drop 1)]) := by
      have := cut_from (grpL' n) 1
      simp only [aSl, hB]
      rw [show (some (1 : Int)) = some ((1 : Nat) : Int) from rfl, this]
    rw [grpL_tail] at this
    simp only [evE_sl, evE_var, List.getElem?_cons_zero, List.getElem?_cons_succ, bind_ok, kSl_eq, evO_some, evE_lit, kO_eq, kSl2_eq, evO_none, this]
  -- all are there
  have c1 : evL c (.comp [5] (.v (.sl (.var 1) (some (.lit (.int 1))) none)) (.name 5) (.lit (.bl true)) (.cmp .in_ (.var 5) (.var 2))) [some (divV n dv), some (.ref r), some (.ref A.length), some (.tup (bs.map .int)), o4, none] A1 = .ok ((List.range (2 ^ n - 1)).map fun _ => .bl true) (A1 ++ [.lst ((List.range (2 ^ n - 1)).map fun k => grpV n (k + 1))]) := by
    refine compMapI2 (L := List.range (2 ^ n - 1)) (g := fun k => grpV n (k + 1)) (fun _ => .bl true) (sl A1 hg1) (get_new _ _) (by rw [List.length_range]; exact Nat.le_of_lt (size_big (by omega))) fun k hk => ⟨_, rfl, ?_⟩
    have hD' := get_app hD [AO.lst ((List.range (2 ^ n - 1)).map fun k => grpV n (k + 1))]
    have hin : aCmp .in_ (grpV n (k + 1)) (.ref A.length) (A1 ++ [AO.lst ((List.range (2 ^ n - 1)).map fun k => grpV n (k + 1))]) = some true := by
      show (match dctOf _ (.ref A.length) with | some kvs => (keyOf (grpV n (k + 1))).map fun k => (aGet kvs k).isSome | none => _) = _
      have : dctOf (A1 ++ [AO.lst ((List.range (2 ^ n - 1)).map fun k => grpV n (k + 1))]) (.ref A.length) = some (encD ek3 AV.int D) := by simp only [dctOf, hD']
      rw [this, keyOf_grp]
      show some (aGet (encD ek3 AV.int D) (ek3 (memI n (k + 1)))).isSome = _
      rw [aGet_enc ek3_inj, look1 k (List.mem_range.mp hk)]; rfl
    simp [wipeS, hin]
  have all1 : ∀ B, aLF .all ((List.range (2 ^ n - 1)).map fun _ => AV.bl true) B = .ok (.bl true) B := fun B => by
    have b := boolsOf_map (fun _ => true) ((List.range (2 ^ n - 1)).map fun _ => AV.bl true)
    rw [List.map_map, List.map_map] at b
    simp only [aLF]
    rw [show ((List.range (2 ^ n - 1)).map fun _ => AV.bl true) = (List.range (2 ^ n - 1)).map ((fun x => AV.bl ((fun _ => true) x)) ∘ fun _ => AV.bl true) from rfl, b]
    show Res.ok (AV.bl _) B = _
    congr 2
    rw [List.all_map, List.all_eq_true]
    intro x _; rfl
  -- the numbers
  have hg2 := get_app (get_app hg1 [AO.lst ((List.range (2 ^ n - 1)).map fun k => grpV n (k + 1))]) [AO.lst [AV.int 0]]
  have hD2 := get_app (get_app hD [AO.lst ((List.range (2 ^ n - 1)).map fun k => grpV n (k + 1))]) [AO.lst [AV.int 0]]
  have f0 := get_new (A1 ++ [AO.lst ((List.range (2 ^ n - 1)).map fun k => grpV n (k + 1))]) (.lst [AV.int 0])
  have ex2 := (ex1.app [AO.lst ((List.range (2 ^ n - 1)).map fun k => grpV n (k + 1))]).app [AO.lst [AV.int 0]]
  generalize hr0 : (A1 ++ [AO.lst ((List.range (2 ^ n - 1)).map fun k => grpV n (k + 1))]).length = r0 at f0
  generalize hA2 : A1 ++ [AO.lst ((List.range (2 ^ n - 1)).map fun k => grpV n (k + 1))] ++ [AO.lst [AV.int 0]] = A2 at hg2 hD2 f0 ex2
  have c2 : evL c (.comp [5] (.v (.sl (.var 1) (some (.lit (.int 1))) none)) (.name 5) (.lit (.bl true)) (.ix (.var 2) (.var 5))) [some (divV n dv), some (.ref r), some (.ref A.length), some (.tup (bs.map .int)), o4, none] A2 = .ok ((List.range (2 ^ n - 1)).map fun k => .int (dv (k + 1))) (A2 ++ [.lst ((List.range (2 ^ n - 1)).map fun k => grpV n (k + 1))]) := by
    refine compMapI2 (L := List.range (2 ^ n - 1)) (g := fun k => grpV n (k + 1)) (fun k => .int (dv (k + 1))) (sl A2 hg2) (get_new _ _) (by rw [List.length_range]; exact Nat.le_of_lt (size_big (by omega))) fun k hk => ⟨_, rfl, ?_⟩
    have hD' := get_app hD2 [AO.lst ((List.range (2 ^ n - 1)).map fun k => grpV n (k + 1))]
    have := ix3 hD' (n := n) (m := k + 1) (look1 k (List.mem_range.mp hk))
    simp [wipeS, this]
  have f1 := get_app (get_app f0 [AO.lst ((List.range (2 ^ n - 1)).map fun k => grpV n (k + 1))]) [AO.lst ((List.range (2 ^ n - 1)).map fun k => AV.int (dv (k + 1)))]
  have f2 := get_new (A2 ++ [AO.lst ((List.range (2 ^ n - 1)).map fun k => grpV n (k + 1))]) (.lst ((List.range (2 ^ n - 1)).map fun k => AV.int (dv (k + 1))))
  have hl1 : [AV.int 0].length + ((List.range (2 ^ n - 1)).map fun k => AV.int (dv (k + 1))).length ≤ 1000000 := by simp; omega
  have a1 := add_lst f1 f2 (Nat.le_of_lt (size_big hl1))
  have edv : [AV.int 0] ++ ((List.range (2 ^ n - 1)).map fun k => AV.int (dv (k + 1))) = (lF (2 ^ n) dv).map .int := by
    obtain ⟨N, hN⟩ : ∃ N, 2 ^ n = N + 1 := ⟨2 ^ n - 1, by omega⟩
    rw [hN]
    unfold lF
    rw [List.range_succ_eq_map, List.map_cons, List.map_cons, h0, List.map_map, List.map_map]
    rfl
  rw [edv] at a1
  have ex3 := ((ex2.app [AO.lst ((List.range (2 ^ n - 1)).map fun k => grpV n (k + 1))]).app [AO.lst ((List.range (2 ^ n - 1)).map fun k => AV.int (dv (k + 1)))])
  have ln := ex3.len
  refine ⟨_, (A2 ++ [AO.lst ((List.range (2 ^ n - 1)).map fun k => grpV n (k + 1))] ++ [AO.lst ((List.range (2 ^ n - 1)).map fun k => AV.int (dv (k + 1)))]).length, ?_, ex3.app [AO.lst ((lF (2 ^ n) dv).map .int)], ln, get_new _ _⟩
  simp only [bNumbers, evSs_cons, evS_if, evE_not, evE_call, evEs_cons, evE_var, evE_lit, List.getElem?_cons_zero, List.getElem?_cons_succ, List.set_cons_zero, List.set_cons_succ, bind_ok, kCons_eq, evEs_nil, kCons2_eq, evE_bin, evE_bif, ll, kBin_eq, sub_int, kCall_eq, List.append_nil, s1, kNot_eq, truth_bl, Bool.not_true, tru_bl, out_ok, kIf_eq, Bool.false_eq_true, if_false, evSs_nil, seq_next, kSs_eq, evS_asg, evE_dnew, kAsg_eq, evTg_name, evE_tup, kTup_eq, List.length_nil, Nat.zero_le, if_true, l1, evE_lf, c1, all1, evS_ret, evE_new, evL_disp, kDisp_eq, List.length_cons, Nat.zero_add, z1, kNew_eq, hA2, hr0, c2, a1, seq_ret, fin_ret]
end Ev


set_option linter.all false
set_option maxRecDepth 100000
set_option maxHeartbeats 8000000
namespace Ev
open PySem L2 Sh

/-! ### the prices from the dividends -/
def bParted : List S := [.asg (.name 3) (.bin .mul (.new (.disp [(.tup [(.lit (.int 0)), (.lit (.int 1))])])) (.var 2)),
    .for_ (.name 4) (.range2 (.lit (.int 1)) (.bif .len [(.var 1)])) [.for_ (.name 5) (.v (.ix (.var 1) (.var 4))) [.asg (.sub (.var 3) (.var 5)) (.call "_law_add" [(.ix (.var 3) (.var 5)), (.call "_law_amount" [(.ix (.var 0) (.var 4)), (.bif .len [(.ix (.var 1) (.var 4))])] [])] [])]],
    .ret (.bif .tupof [(.var 3)])]
def lP (n : Nat) (F : Nat → Int × Int) : List AV := (List.range n).map fun i => pairV (F i)
theorem lP_len (n : Nat) (F : Nat → Int × Int) : (lP n F).length = n := by simp [lP]
theorem lP_congr {n : Nat} {F F' : Nat → Int × Int} (h : ∀ i, i < n → F i = F' i) : lP n F = lP n F' := List.map_congr_left fun i hi => by rw [h i (List.mem_range.mp hi)]
theorem lP_set {n x : Nat} (F : Nat → Int × Int) (v : Int × Int) : (lP n F).set x (pairV v) = lP n fun i => if i = x then v else F i := by
  unfold lP
  apply List.ext_getElem?
  intro i
  by_cases hi : i < n
  · by_cases e : i = x
    · subst e
      rw [List.getElem?_set_self (by simpa using hi), List.getElem?_map, List.getElem?_range hi]; simp
    · rw [List.getElem?_set_ne (Ne.symm e), List.getElem?_map, List.getElem?_map, List.getElem?_range hi]; simp [e]
  · rw [List.getElem?_eq_none (by simp; omega), List.getElem?_eq_none (by simp; omega)]
theorem ix_lP {A : AH} {r n i : Nat} {F : Nat → Int × Int} (h : A[r]? = some (.lst (lP n F))) (hi : i < n) : aIx (.ref r) (.int (i : Int)) A = some (pairV (F i)) := by
  rw [ix_ref h]
  exact atI_nat (by unfold lP; rw [List.getElem?_map, List.getElem?_range hi]; rfl)
theorem set_lP {A : AH} {r n i : Nat} {F : Nat → Int × Int} (h : A[r]? = some (.lst (lP n F))) (hi : i < n) (v : Int × Int) : aSet (.ref r) (.int (i : Int)) (pairV v) A = some (A.set r (.lst (lP n fun j => if j = i then v else F j))) := by
  have : ixN (lP n F).length (i : Int) = some i := ixN_nat (by rw [lP_len]; exact hi)
  simp only [aSet, h, this, lP_set]
theorem reps (v : AV) (k : Nat) : (List.replicate k [v]).flatten = List.replicate k v := by
  induction k with
  | zero => rfl
  | succ k ih => rw [List.replicate_succ, List.flatten_cons, ih, List.replicate_succ]; rfl
theorem rep_lP (n : Nat) (p : Int × Int) : List.replicate n (pairV p) = lP n fun _ => p := by
  unfold lP
  rw [List.map_const', List.length_range]
def PP (n : Nat) (dv : Nat → Int) (k i : Nat) : Int := sm k fun p => if p.testBit i then dv p * (coef n i p : Int) else 0
def ppV (n : Nat) (dv : Nat → Int) : AV := .tup (lP n fun i => red (PP n dv (2 ^ n) i) (fac n))
theorem red_le' {x d : Int} (hd : 0 < d) : (red x d).2 ≤ d := by
  have h1 := gcd_pos (x := x) hd
  have h2 := red_pos (x := x) hd
  have h3 := red_snd (x := x) (d := d)
  have h4 : (red x d).2 * 1 ≤ (red x d).2 * (Int.gcd x d : Int) := Int.mul_le_mul_of_nonneg_left (by omega) (by omega)
  omega
theorem pc_pos {n p : Nat} (h : p < 2 ^ n) (h0 : p ≠ 0) : 0 < pc n p := by
  have := memI_ne h h0
  rw [← memI_len]
  exact List.length_pos_iff.mpr this
theorem coef_pos {n i p : Nat} (hn : n ≤ 6) (hi : i < n) (hp : p < 2 ^ n) (hb : p.testBit i = true) : (0 : Int) < (coef n i p : Int) := by
  have h := coef_pc hn hi hp hb
  have f := (fac_lt10 (n := n) (by omega)).1
  rcases Nat.eq_zero_or_pos (coef n i p) with e | e
  · rw [e] at h; simp at h; omega
  · omega
theorem red_part {n i p : Nat} (hn : n ≤ 6) (hi : i < n) (hp : p < 2 ^ n) (hb : p.testBit i = true) (h0 : p ≠ 0) (x : Int) : red x (pc n p : Int) = red (x * (coef n i p : Int)) (fac n) := by
  rw [← coef_pc hn hi hp hb, Int.mul_comm x, Int.mul_comm (pc n p : Int)]
  have := pc_pos hp h0
  exact (red_scale (coef_pos hn hi hp hb) (by omega)).symm
def addIs (c : Cfg) : Prop := ∀ A (a b : Int × Int), 0 < a.2 → a.2 < 2 ^ 32 → 0 < b.2 → b.2 < 2 ^ 32 → c.fn "_law_add" [pairV a, pairV b] A = .ok (pairV (red (a.1 * b.2 + b.1 * a.2) (a.2 * b.2))) A
def partedIs (c : Cfg) : Prop := ∀ A (n r rg : Nat) (dv : Nat → Int), n ≤ 6 → A[r]? = some (.lst ((lF (2 ^ n) dv).map .int)) → A[rg]? = some (.lst (grpL' n)) → ∃ A', c.fn "_law_parted_prices" [.ref r, .ref rg, .int n] A = .ok (ppV n dv) A' ∧ Ex A A'
theorem mem_take_succ {n k j m i : Nat} (h : (mem n k)[j]? = some m) : i ∈ (mem n k).take (j + 1) ↔ i ∈ (mem n k).take j ∨ i = m := by
  rw [take_get h, List.mem_append, List.mem_singleton]
theorem mem_nodup (n k : Nat) : (mem n k).Nodup := List.Pairwise.filter _ List.nodup_range
theorem mem_take_not {n k j m : Nat} (h : (mem n k)[j]? = some m) : m ∉ (mem n k).take j := fun q => by
  obtain ⟨i, hi, e⟩ := List.mem_iff_getElem.mp q
  rw [List.length_take] at hi
  rw [List.getElem_take] at e
  obtain ⟨hj, e2⟩ := List.getElem?_eq_some_iff.mp h
  have := (List.pairwise_iff_getElem.mp (mem_nodup n k)) i j (by omega) hj (by omega)
  exact this (e.trans e2.symm)
theorem parted_ev (c : Cfg) (am : lamountIs c) (ad : addIs c) (A : AH) {n r rg : Nat} {dv : Nat → Int} (hn : n ≤ 6) (hr : A[r]? = some (.lst ((lF (2 ^ n) dv).map .int))) (hg : A[rg]? = some (.lst (grpL' n))) : ∃ A', (evSs c bParted [some (.ref r), some (.ref rg), some (.int n), none, none, none] A).fin = .ok (ppV n dv) A' ∧ Ex A A' := by
  have pN : 2 ^ n ≤ 64 := Nat.pow_le_pow_right (show 0 < 2 by decide) hn
  have pos := Nat.two_pow_pos n
  have p3 := fac_lt10 (n := n) (by omega)
  have z1 : 1 ≤ sizeLine := Nat.le_of_lt (size_big (by omega))
  have z2 : 2 ≤ sizeLine := two_le'
  -- the list
  have g0 := get_new A (.lst [pairV (0, 1)])
  have m0 := mul_lst (k := n) g0 (by simp; exact Nat.le_of_lt (size_big (by omega))) (by omega)
  rw [reps, rep_lP] at m0
  have g1 := get_new (A ++ [.lst [pairV (0, 1)]]) (.lst (lP n fun _ => (0, 1)))
  have ex0 := ((Ex.refl A).app [AO.lst [pairV (0, 1)]]).app [AO.lst (lP n fun _ => (0, 1))]
  have hB : A.length ≤ (A ++ [AO.lst [pairV (0, 1)]]).length := by simp
  generalize (A ++ [AO.lst [pairV (0, 1)]]).length = q at m0 g1 hB
  generalize A ++ [AO.lst [pairV (0, 1)]] ++ [AO.lst (lP n fun _ => (0, 1))] = A1 at m0 g1 ex0
  have lg : ∀ B, B[rg]? = some (.lst (grpL' n)) → aBif .len [.ref rg] B = .ok (.int ((2 ^ n : Nat) : Int)) B := fun B h => by
    have := len_ref h
    rw [show (grpL' n).length = 2 ^ n by simp [grpL']] at this; exact this
  have loop : ∃ σ' A', evS c (.for_ (.name 4) (.range2 (.lit (.int 1)) (.bif .len [(.var 1)])) [.for_ (.name 5) (.v (.ix (.var 1) (.var 4))) [.asg (.sub (.var 3) (.var 5)) (.call "_law_add" [(.ix (.var 3) (.var 5)), (.call "_law_amount" [(.ix (.var 0) (.var 4)), (.bif .len [(.ix (.var 1) (.var 4))])] [])] [])]])
      [some (.ref r), some (.ref rg), some (.int n), some (.ref q), none, none] A1 = .next σ' A' ∧
      ∃ o4 o5, σ' = [some (.ref r), some (.ref rg), some (.int n), some (.ref q), o4, o5] ∧ Ex A A' ∧ A'[q]? = some (.lst (lP n fun i => red (PP n dv (((List.range (((2 ^ n : Nat) : Int) - 1).toNat).map fun (k : Nat) => AV.int (1 + k)).length + 1) i) (fac n))) := by
    rw [forN2 (i := 1) (j := ((2 ^ n : Nat) : Int)) (by simp) (by simp [lg A1 (ex0.get hg)]) (by omega)]
    refine for_end (fun j σ A' => ∃ o4 o5, σ = [some (.ref r), some (.ref rg), some (.int n), some (.ref q), o4, o5] ∧ Ex A A' ∧ A'[q]? = some (.lst (lP n fun i => red (PP n dv (j + 1) i) (fac n))))
      ⟨none, none, rfl, ex0, by
        rw [g1]
        congr 2
        refine lP_congr fun i _ => ?_
        have : PP n dv (0 + 1) i = fac n * 0 := by simp [PP, sm]
        rw [this, red_one p3.1]⟩ (fun _ _ _ _ _ => rfl) (fun j x σ B hx hj => ?_)
    obtain ⟨o4, o5, rfl, ex, hq⟩ := hj
    rw [List.getElem?_map] at hx
    obtain ⟨j', hj', rfl⟩ := Option.map_eq_some_iff.mp hx
    obtain ⟨hl, e⟩ := List.getElem?_eq_some_iff.mp hj'
    rw [List.getElem_range] at e
    subst e
    rw [List.length_range] at hl
    have hk : j + 1 < 2 ^ n := by omega
    have ek : (1 + (j : Int)) = ((j + 1 : Nat) : Int) := by omega
    rw [ek]
    generalize hkk : j + 1 = k at *
    have hk0 : k ≠ 0 := by omega
    have ig : ∀ B, B[rg]? = some (.lst (grpL' n)) → aIx (.ref rg) (.int (k : Int)) B = some (grpV n k) := fun B h => by
      rw [ix_ref h]; exact atI_nat (by unfold grpL'; rw [List.getElem?_map, List.getElem?_range hk]; rfl)
    have ir : ∀ B, B[r]? = some (.lst ((lF (2 ^ n) dv).map .int)) → aIx (.ref r) (.int (k : Int)) B = some (.int (dv k)) := fun B h => by
      rw [ix_ints h (by rw [lF_len]; exact hk), lF_get _ hk]
    have inner : ∃ σ' A', evS c (.for_ (.name 5) (.v (.ix (.var 1) (.var 4))) [.asg (.sub (.var 3) (.var 5)) (.call "_law_add" [(.ix (.var 3) (.var 5)), (.call "_law_amount" [(.ix (.var 0) (.var 4)), (.bif .len [(.ix (.var 1) (.var 4))])] [])] [])])
        [some (.ref r), some (.ref rg), some (.int n), some (.ref q), some (.int (k : Int)), o5] B = .next σ' A' ∧
        ∃ o5, σ' = [some (.ref r), some (.ref rg), some (.int n), some (.ref q), some (.int (k : Int)), o5] ∧ Ex A A' ∧ A'[q]? = some (.lst (lP n fun i => red (if i ∈ (mem n k).take (((mem n k).map fun (i : Nat) => AV.int (i : Int)).length) then PP n dv (k + 1) i else PP n dv k i) (fac n))) := by
      rw [forV (xs := (mem n k).map fun (i : Nat) => AV.int (i : Int)) (by simp [ig B (ex.get hg), grp_nat])]
      refine for_end (fun m σ A' => ∃ o5, σ = [some (.ref r), some (.ref rg), some (.int n), some (.ref q), some (.int (k : Int)), o5] ∧ Ex A A' ∧ A'[q]? = some (.lst (lP n fun i => red (if i ∈ (mem n k).take m then PP n dv (k + 1) i else PP n dv k i) (fac n))))
        ⟨o5, rfl, ex, by rw [hq]; rfl⟩ (fun _ _ _ _ _ => rfl) (fun m x σ B2 hx hm => ?_)
      obtain ⟨o5, rfl, ex2, hq2⟩ := hm
      rw [List.getElem?_map] at hx
      obtain ⟨i, hi, rfl⟩ := Option.map_eq_some_iff.mp hx
      obtain ⟨hin, hbit⟩ := mem_mem.mp (List.mem_of_getElem? hi)
      have hnot := mem_take_not hi
      have i1 := ix_lP hq2 hin
      rw [if_neg hnot] at i1
      have pcp := pc_pos hk hk0
      have pcl := pc_le n k
      have a1 := am B2 (dv k) (pc n k : Int) (by omega) (by omega)
      have q1 := red_pos (x := PP n dv k i) p3.1
      have q2 := red_le' (x := PP n dv k i) p3.1
      have q3 := red_pos (x := dv k) (d := (pc n k : Int)) (by omega)
      have q4 := red_le' (x := dv k) (d := (pc n k : Int)) (by omega)
      have a2 := ad B2 (red (PP n dv k i) (fac n)) (red (dv k) (pc n k : Int)) q1 (by omega) q3 (by omega)
      rw [red_part hn hin hk hbit hk0] at a1 a2
      rw [red_add p3.1] at a2
      have es : PP n dv k i + dv k * (coef n i k : Int) = PP n dv (k + 1) i := by
        unfold PP
        show _ = sm k _ + (if k.testBit i then dv k * (coef n i k : Int) else 0)
        rw [if_pos hbit]
      rw [es] at a2
      have s1 := set_lP hq2 hin (red (PP n dv (k + 1) i) (fac n))
      have eset : (lP n fun j => if j = i then red (PP n dv (k + 1) i) (fac n) else red (if j ∈ (mem n k).take m then PP n dv (k + 1) j else PP n dv k j) (fac n)) = lP n fun i => red (if i ∈ (mem n k).take (m + 1) then PP n dv (k + 1) i else PP n dv k i) (fac n) := by
        refine lP_congr fun z _ => ?_
        by_cases e : z = i
        · subst e
          rw [if_pos rfl, if_pos ((mem_take_succ hi).mpr (.inr rfl))]
        · rw [if_neg e]
          have : z ∈ (mem n k).take (m + 1) ↔ z ∈ (mem n k).take m := by rw [mem_take_succ hi]; simp [e]
          simp only [this]
      rw [eset] at s1
      refine ⟨_, _, rfl, [some (.ref r), some (.ref rg), some (.int n), some (.ref q), some (.int (k : Int)), some (.int (i : Int))], B2.set q (.lst (lP n fun i => red (if i ∈ (mem n k).take (m + 1) then PP n dv (k + 1) i else PP n dv k i) (fac n))), ?_, _, rfl, ex2.set hB _, get_set (get_lt hq2)⟩
      · simp only [evSs_cons, evS_asg, evE_call, evEs_cons, evE_ix, evE_bif, evE_var, evE_lit, List.getElem?_cons_zero, List.getElem?_cons_succ, List.set_cons_zero, List.set_cons_succ, bind_ok, kIx_eq, kIx2_eq, i1, ir B2 (ex2.get hr), ig B2 (ex2.get hg), len_grp, kCons_eq, evEs_nil, kCons2_eq, kCall_eq, List.append_nil, a1, a2, out_ok, kAsg_eq, evTg_sub, kTsub_eq, kTsub2_eq, s1, seq_next, kSs_eq, evSs_nil]
    obtain ⟨σ2, A2, i1, o5', rfl, ex2, h2⟩ := inner
    refine ⟨_, _, rfl, [some (.ref r), some (.ref rg), some (.int n), some (.ref q), some (.int (k : Int)), o5'], A2, ?_, _, _, rfl, ex2, ?_⟩
    · simp only [evSs_cons, List.set_cons_zero, List.set_cons_succ, i1, seq_next, kSs_eq, evSs_nil]
    · rw [h2]
      congr 2
      refine lP_congr fun i hi => ?_
      rw [List.length_map, List.take_length]
      by_cases hb : k.testBit i = true
      · rw [if_pos (mem_mem.mpr ⟨hi, hb⟩)]
      · rw [if_neg (fun z => hb (mem_mem.mp z).2)]
        have hb : k.testBit i = false := by simpa using hb
        have : PP n dv (k + 1) i = PP n dv k i := by
          unfold PP
          show sm k _ + (if k.testBit i then dv k * (coef n i k : Int) else 0) = _
          rw [hb]; simp
        rw [this]
  obtain ⟨σ', A', h1, o4, o5, rfl, ex, hq⟩ := loop
  have e1 : ((List.range (((2 ^ n : Nat) : Int) - 1).toNat).map fun (k : Nat) => AV.int (1 + k)).length + 1 = 2 ^ n := by rw [List.length_map, List.length_range]; omega
  rw [e1] at hq
  refine ⟨A', ?_, ex⟩
  have m0 : aBin .mul (.ref A.length) (.int n) (A ++ [.lst [.tup [.int 0, .int 1]]]) = .ok (.ref q) A1 := m0
  simp [bParted, z1, z2, m0, h1, tupof_seq (seq_ref hq), ppV]
/-- they are the prices due -/
theorem ppV_due (bk : List (List (Int × Int))) {l : List Int} (hn : l.length ≤ 6) : ppV l.length (DV (fun m => (Sh.G bk l m).2) l.length) = .tup ((dueL bk l).map pairV) := by
  unfold ppV dueL lP
  rw [List.map_map]
  congr 1
  refine List.map_congr_left fun i hi => ?_
  show pairV (red (PP l.length _ _ i) _) = pairV (red (mar l.length (shw l.length) (fun m => (Sh.G bk l m).2) i) (fac l.length))
  rw [mar_div hn (List.mem_range.mp hi)]; rfl
end Ev


set_option linter.all false
set_option maxRecDepth 100000
set_option maxHeartbeats 4000000
namespace Sh
open Ev PySem L2

/-! ### the planted book: its states are the sets of kinds -/
theorem or_bit {m x : Nat} (h : m.testBit x = false) : m ||| 2 ^ x = m + 2 ^ x := Nat.eq_of_testBit_eq fun j => by
  rw [Nat.testBit_or, Nat.testBit_two_pow, tb_add h]
  by_cases e : j = x
  · subst e; simp
  · rw [if_neg e, decide_eq_false (fun z => e z.symm), Bool.or_false]
theorem or_lt {m x K : Nat} (h : m < 2 ^ K) (hx : x < K) : m ||| 2 ^ x < 2 ^ K := Nat.or_lt_two_pow h (Nat.pow_lt_pow_right (by decide) hx)
/-- the sums over the parts, split by a bit -/
theorem sums_bit {K x m : Nat} (f : Nat → Int) (hx : x < K) (hm : m.testBit x = false) : sums K f (m + 2 ^ x) = sums K f m + sums K (fun p => f (p + 2 ^ x)) m := by
  have e1 : sums K f (m + 2 ^ x) = sm (2 ^ K) (fun p => if p.testBit x then (if sub K (p - 2 ^ x) m && decide (2 ^ x ≤ p) then f p else 0) else 0) + sums K f m := by
    unfold sums
    rw [← sm_plus]
    refine sm_congr fun p hp => ?_
    by_cases hb : p.testBit x = true
    · have hge := tb_ge hb
      obtain ⟨q, rfl⟩ : ∃ q, p = q + 2 ^ x := ⟨p - 2 ^ x, by omega⟩
      have hq : q.testBit x = false := by
        cases hc : q.testBit x with
        | false => rfl
        | true =>
          have e := Nat.testBit_eq_decide_div_mod_eq (x := q) (i := x)
          have e' := Nat.testBit_eq_decide_div_mod_eq (x := q + 2 ^ x) (i := x)
          rw [hc] at e; rw [hb] at e'
          have e := of_decide_eq_true e.symm
          have e' := of_decide_eq_true e'.symm
          rw [Nat.add_div_right _ (Nat.two_pow_pos x)] at e'
          omega
      have s1 : sub K (q + 2 ^ x) (m + 2 ^ x) = sub K q m := by
        unfold sub
        rw [Bool.eq_iff_iff, List.all_eq_true, List.all_eq_true]
        constructor <;> intro w i hi <;> have := w i hi <;> rw [tb_add hq, tb_add hm] at * 
        · by_cases e : i = x
          · subst e; rw [hq]; rfl
          · rw [if_neg e, if_neg e] at this; exact this
        · by_cases e : i = x
          · rw [if_pos e, if_pos e]; rfl
          · rw [if_neg e, if_neg e]; exact this
      have s2 : sub K (q + 2 ^ x) m = false := by
        cases h : sub K (q + 2 ^ x) m with
        | false => rfl
        | true =>
          have := sub_iff.mp h x hx (by rw [tb_add hq]; simp)
          rw [hm] at this; cases this
      rw [s1, s2, hb, Nat.add_sub_cancel, decide_eq_true (Nat.le_add_left _ _)]; simp
    · have hb : p.testBit x = false := by simpa using hb
      have s1 : sub K p (m + 2 ^ x) = sub K p m := by
        unfold sub
        rw [Bool.eq_iff_iff, List.all_eq_true, List.all_eq_true]
        constructor <;> intro w i hi <;> have := w i hi <;> rw [tb_add hm] at *
        · by_cases e : i = x
          · subst e; rw [hb]; rfl
          · rw [if_neg e] at this; exact this
        · by_cases e : i = x
          · rw [if_pos e]; simp
          · rw [if_neg e]; exact this
      rw [s1, hb]; simp
  rw [e1, ← half (fun p => if sub K (p - 2 ^ x) m && decide (2 ^ x ≤ p) then f p else 0) hx, Int.add_comm]
  congr 1
  unfold sums
  refine sm_congr fun p hp => ?_
  by_cases hb : p.testBit x = true
  · have s2 : sub K p m = false := by
      cases h : sub K p m with
      | false => rfl
      | true =>
        have := sub_iff.mp h x hx hb
        rw [hm] at this; cases this
    rw [hb, s2]; simp
  · have hb : p.testBit x = false := by simpa using hb
    rw [hb, Nat.add_sub_cancel, decide_eq_true (Nat.le_add_left _ _)]; simp
/-- the kinds of a group, as a mask -/
def km (l : List Int) (m : Nat) : Nat := ((mem l.length m).map fun i => 2 ^ (l.getD i 0).toNat).sum
theorem km_nil (m : Nat) : km [] m = 0 := rfl
theorem km_cong {l : List Int} {k : Int} {m : Nat} : ((mem l.length m).map fun i => 2 ^ ((l ++ [k]).getD i 0).toNat) = (mem l.length m).map fun i => 2 ^ (l.getD i 0).toNat := List.map_congr_left fun i hi => by rw [getD_app (mem_mem.mp hi).1]
theorem km_lo {l : List Int} {k : Int} {m : Nat} (h : m < 2 ^ l.length) : km (l ++ [k]) m = km l m := by
  unfold km
  rw [List.length_append, List.length_singleton, mem_lo h, km_cong]
theorem km_hi {l : List Int} {k : Int} {m : Nat} (h : m < 2 ^ l.length) : km (l ++ [k]) (2 ^ l.length + m) = km l m + 2 ^ k.toNat := by
  unfold km
  rw [List.length_append, List.length_singleton, mem_hi h, List.map_append, List.sum_append, km_cong]
  congr 1
  show 2 ^ ((l ++ [k]).getD l.length 0).toNat + 0 = _
  rw [List.getD_eq_getElem?_getD, List.getElem?_append_right (Nat.le_refl _)]; simp
theorem spl {l : List Int} {m : Nat} (h : m < 2 ^ (l.length + 1)) : m < 2 ^ l.length ∨ ∃ m', m = 2 ^ l.length + m' ∧ m' < 2 ^ l.length := by
  rw [Nat.pow_succ] at h
  by_cases hl : m < 2 ^ l.length
  · exact .inl hl
  · exact .inr ⟨m - 2 ^ l.length, by omega, by omega⟩
/-- below 2^K, and its bits are kinds of the row -/
theorem km_ok {K : Nat} : ∀ l : List Int, inB l K → l.Nodup → ∀ m, m < 2 ^ l.length → km l m < 2 ^ K ∧ ∀ x, (km l m).testBit x = true → (x : Int) ∈ l := by
  refine snocInd (fun _ _ m _ => ⟨Nat.two_pow_pos K, fun x hx => by rw [km_nil, Nat.zero_testBit] at hx; cases hx⟩) fun l k ih hb nd m hm => ?_
  have hb' : inB l K := fun x hx => hb x (List.mem_append_left _ hx)
  obtain ⟨nd', _, hk⟩ := List.nodup_append.mp nd
  have hkl : k ∉ l := fun q => hk k q k (by simp) rfl
  obtain ⟨k0, k1⟩ := hb k (by simp)
  rw [List.length_append, List.length_singleton] at hm
  rcases spl hm with h | ⟨m', rfl, h⟩
  · rw [km_lo h]
    obtain ⟨a, b⟩ := ih hb' nd' m h
    exact ⟨a, fun x hx => List.mem_append_left _ (b x hx)⟩
  · rw [km_hi h]
    obtain ⟨a, b⟩ := ih hb' nd' m' h
    have hf : (km l m').testBit k.toNat = false := by
      cases q : (km l m').testBit k.toNat with
      | false => rfl
      | true =>
        have := b _ q
        rw [Int.toNat_of_nonneg k0] at this
        exact absurd this hkl
    refine ⟨add_lt a (by omega) hf, fun x hx => ?_⟩
    rw [tb_add hf] at hx
    by_cases e : x = k.toNat
    · subst e; rw [Int.toNat_of_nonneg k0]; simp
    · rw [if_neg e] at hx; exact List.mem_append_left _ (b x hx)
theorem km_free {K : Nat} {l : List Int} {k : Int} (hb : inB (l ++ [k]) K) (nd : (l ++ [k]).Nodup) {m : Nat} (hm : m < 2 ^ l.length) : (km l m).testBit k.toNat = false ∧ l.Nodup ∧ inB l K := by
  have hb' : inB l K := fun x hx => hb x (List.mem_append_left _ hx)
  obtain ⟨nd', _, hk⟩ := List.nodup_append.mp nd
  refine ⟨?_, nd', hb'⟩
  cases q : (km l m).testBit k.toNat with
  | false => rfl
  | true =>
    have := (km_ok l hb' nd' m hm).2 _ q
    rw [Int.toNat_of_nonneg (hb k (by simp)).1] at this
    exact absurd rfl (hk k this k (by simp))
/-- parts of a group and parts of its kinds -/
theorem km_sums {K : Nat} : ∀ l : List Int, inB l K → l.Nodup → ∀ (P : Nat → Int) m, m < 2 ^ l.length → sums l.length (fun p => P (km l p)) m = sums K P (km l m) := by
  refine snocInd (fun _ _ P m hm => ?_) fun l k ih hb nd P m hm => ?_
  · have hm : m < 1 := hm
    obtain rfl : m = 0 := by omega
    rw [km_nil]
    show (0 : Int) + P 0 = _
    unfold sums
    rw [sm_one (a := 0) (Nat.two_pow_pos K) (fun p hp h => ?_), if_pos (sub_zero K 0)]; omega
    rw [if_neg]
    intro q
    have := sub_iff.mp q
    exact h (mask_ext hp (Nat.two_pow_pos K) fun i hi => by
      rw [Nat.zero_testBit]
      cases hb : p.testBit i with
      | false => rfl
      | true => have := this i hi hb; rw [Nat.zero_testBit] at this; cases this)
  · rw [List.length_append, List.length_singleton] at hm ⊢
    have k1 := hb k (by simp)
    rcases spl hm with h | ⟨m', rfl, h⟩
    · obtain ⟨_, nd', hb'⟩ := km_free hb nd h
      rw [sums_lo _ h, km_lo h, ← ih hb' nd' P m h]
      exact sums_congr fun p hp => by rw [km_lo hp]
    · obtain ⟨hf, nd', hb'⟩ := km_free hb nd h
      rw [sums_hi _ h, km_hi h, sums_bit P (by omega) hf, ← ih hb' nd' P m' h, ← ih hb' nd' (fun q => P (q + 2 ^ k.toNat)) m' h]
      congr 1
      · exact sums_congr fun p hp => by rw [km_lo hp]
      · exact sums_congr fun p hp => by rw [km_hi hp]
/-- the book -/
def bkP (K : Nat) (P : Nat → Int) : List (List (Int × Int)) := (List.range (2 ^ K)).map fun met => (List.range K).map fun kind => (((met ||| 2 ^ kind : Nat) : Int), sums K P (met ||| 2 ^ kind) - sums K P met)
theorem nx_P {K : Nat} {P : Nat → Int} {s x : Nat} (hs : s < 2 ^ K) (hx : x < K) : nx (bkP K P) (s : Int) (x : Int) = (((s ||| 2 ^ x : Nat) : Int), sums K P (s ||| 2 ^ x) - sums K P s) := by
  unfold nx bkP
  have e1 : ((List.range (2 ^ K)).map fun met => (List.range K).map fun kind => (((met ||| 2 ^ kind : Nat) : Int), sums K P (met ||| 2 ^ kind) - sums K P met)).getD s [] = (List.range K).map fun kind => (((s ||| 2 ^ kind : Nat) : Int), sums K P (s ||| 2 ^ kind) - sums K P s) := by
    rw [List.getD_eq_getElem?_getD, List.getElem?_map, List.getElem?_range hs]; rfl
  rw [Int.toNat_natCast, Int.toNat_natCast, e1, List.getD_eq_getElem?_getD, List.getElem?_map, List.getElem?_range hx]; rfl
theorem sm_bound {n : Nat} {f : Nat → Int} {b : Int} (h : ∀ m, m < n → -b ≤ f m ∧ f m ≤ b) : -(n * b) ≤ sm n f ∧ sm n f ≤ n * b := by
  induction n with
  | zero => simp [sm]
  | succ n ih =>
    obtain ⟨a1, a2⟩ := ih fun m hm => h m (by omega)
    obtain ⟨b1, b2⟩ := h n (by omega)
    show -_ ≤ sm n f + f n ∧ sm n f + f n ≤ _
    rw [Int.natCast_add, Int.add_mul]
    omega
theorem bkP_ok {K : Nat} {P : Nat → Int} (hK : K ≤ 4) (h : ∀ m, m < 2 ^ K → -1249 ≤ P m ∧ P m ≤ 1249) : BkOk (bkP K P) K (2 ^ K) (-40000) 40000 := by
  have p16 : 2 ^ K ≤ 16 := Nat.pow_le_pow_right (show 0 < 2 by decide) hK
  have b : ∀ m, -20000 ≤ sums K P m ∧ sums K P m ≤ 20000 := fun m => by
    unfold sums
    have := sm_bound (n := 2 ^ K) (f := fun p => if sub K p m then P p else 0) (b := 1249) fun p hp => by
      have := h p hp
      show -1249 ≤ (if sub K p m then P p else 0) ∧ (if sub K p m then P p else 0) ≤ 1249
      split <;> omega
    have e : ((2 ^ K : Nat) : Int) ≤ 16 := by omega
    have e2 : ((2 ^ K : Nat) : Int) * 1249 ≤ 16 * 1249 := Int.mul_le_mul_of_nonneg_right e (by omega)
    omega
  refine ⟨by simp [bkP], fun r hr => ?_⟩
  obtain ⟨met, hmet, rfl⟩ := List.mem_map.mp hr
  refine ⟨by simp, fun p hp => ?_⟩
  obtain ⟨kind, hk, rfl⟩ := List.mem_map.mp hp
  have := or_lt (List.mem_range.mp hmet) (List.mem_range.mp hk)
  have b1 := b (met ||| 2 ^ kind)
  have b2 := b met
  refine ⟨by omega, by omega, ?_, ?_⟩ <;> show _ ≤ _ <;> dsimp only <;> omega
theorem G_P {K : Nat} {P : Nat → Int} (h0 : P 0 = 0) : ∀ l : List Int, inB l K → l.Nodup → ∀ m, m < 2 ^ l.length → G (bkP K P) l m = (((km l m : Nat) : Int), sums K P (km l m)) := by
  have s0 : sums K P 0 = 0 := by
    unfold sums
    rw [sm_one (a := 0) (Nat.two_pow_pos K) (fun p hp h => ?_), if_pos (sub_zero K 0), h0]
    rw [if_neg]
    intro q
    have := sub_iff.mp q
    exact h (mask_ext hp (Nat.two_pow_pos K) fun i hi => by
      rw [Nat.zero_testBit]
      cases hb : p.testBit i with
      | false => rfl
      | true => have := this i hi hb; rw [Nat.zero_testBit] at this; cases this)
  refine snocInd (fun _ _ m hm => ?_) fun l k ih hb nd m hm => ?_
  · have hm : m < 1 := hm
    obtain rfl : m = 0 := by omega
    rw [G_nil, km_nil, s0]; rfl
  · rw [List.length_append, List.length_singleton] at hm
    have k1 := hb k (by simp)
    rcases spl hm with h | ⟨m', rfl, h⟩
    · obtain ⟨_, nd', hb'⟩ := km_free hb nd h
      rw [G_lo _ h, km_lo h, ih hb' nd' m h]
    · obtain ⟨hf, nd', hb'⟩ := km_free hb nd h
      obtain ⟨hlt, _⟩ := km_ok l hb' nd' m' h
      rw [G_hi _ h, km_hi h, ih hb' nd' m' h]
      unfold stp
      have ek : k = ((k.toNat : Nat) : Int) := by omega
      rw [ek, nx_P hlt (by omega), or_bit hf, Int.toNat_natCast]
      dsimp only
      congr 1
      omega
/-- the dividends of the planted book are the numbers that were drawn -/
theorem DV_P {K : Nat} {P : Nat → Int} (h0 : P 0 = 0) {l : List Int} (hb : inB l K) (nd : l.Nodup) : ∀ m, m < 2 ^ l.length → DV (fun m => (G (bkP K P) l m).2) l.length m = P (km l m) := by
  refine zeta_uniq fun k hk => ?_
  rw [zeta _ _ _ hk, km_sums l hb nd P k hk, G_P h0 l hb nd k hk]
end Sh


set_option linter.all false
set_option maxRecDepth 100000
set_option maxHeartbeats 8000000
namespace Ev
open PySem L2 Sh

/-! ### sums over parts -/
theorem band_nat (a b : Nat) (A : AH) : aBin .band (.int (a : Int)) (.int (b : Int)) A = .ok (.int ((a &&& b : Nat) : Int)) A := by
  have e : Builtin.bitAnd (a : Int) (b : Int) = ((a &&& b : Nat) : Int) := by
    unfold Builtin.bitAnd
    rw [decide_eq_true (Int.natCast_nonneg a), decide_eq_true (Int.natCast_nonneg b)]
    rfl
  simp only [aBin, e]
theorem bor_nat (a b : Nat) (A : AH) : aBin .bor (.int (a : Int)) (.int (b : Int)) A = .ok (.int ((a ||| b : Nat) : Int)) A := by
  have nn : ∀ x, Builtin.bitNot (Builtin.bitNot x) = x := fun x => by unfold Builtin.bitNot; omega
  have ng : ∀ a : Nat, ¬ 0 ≤ Builtin.bitNot (a : Int) := fun a => by unfold Builtin.bitNot; omega
  have e : Builtin.bitOr (a : Int) (b : Int) = ((a ||| b : Nat) : Int) := by
    unfold Builtin.bitOr Builtin.bitAnd
    rw [decide_eq_false (ng a), decide_eq_false (ng b)]
    dsimp only
    rw [nn, nn, nn]; rfl
  simp only [aBin, e]
theorem and_sub {n p k : Nat} (hp : p < 2 ^ n) : decide (p &&& k = p) = Sh.sub n p k := by
  rw [Bool.eq_iff_iff, decide_eq_true_eq, sub_iff]
  constructor
  · intro h i _ hb
    rw [← h, Nat.testBit_and] at hb
    exact (Bool.and_eq_true _ _ ▸ hb).2
  · intro h
    refine Nat.eq_of_testBit_eq fun i => ?_
    rw [Nat.testBit_and]
    cases hb : p.testBit i with
    | false => rfl
    | true =>
      by_cases hi : i < n
      · rw [h i hi hb]; rfl
      · rw [tb_hi hp (by omega)] at hb; cases hb
def prtE (v w u : Nat) : L := .comp [w] (.range1 (.bin .add (.var v) (.lit (.int 1)))) (.name w) (.cmp .eq (.bin .band (.var w) (.var v)) (.var w)) (.ix (.var u) (.var w))
theorem part_sum (c : Cfg) {σ : Sl} {A : AH} {v w u k r n : Nat} {f : Nat → Int} (hn : n ≤ 10) (hv : σ[v]? = some (some (.int (k : Int)))) (hu : σ[u]? = some (some (.ref r))) (hr : A[r]? = some (.lst ((lF (2 ^ n) f).map .int))) (hk : k < 2 ^ n) (hw : w < σ.length) (h1 : v ≠ w) (h2 : u ≠ w) :
    evE c (.lf .sum (prtE v w u)) σ A = .ok (.int (sums n f k)) A := by
  have pN : 2 ^ n ≤ 1024 := Nat.pow_le_pow_right (show 0 < 2 by decide) hn
  have e : evL c (prtE v w u) σ A = .ok (((List.range (k + 1)).filter fun p => decide (p &&& k = p)).map fun p => .int (f p)) A := by
    refine compFiltN (n := k + 1) (fun p => decide (p &&& k = p)) (fun p => .int (f p)) (by simp only [evE_bin, evE_var, hv, bind_ok, kBin_eq, evE_lit, add_int]; rfl) (by omega) fun i hi => ?_
    have q1 : ((wipeS σ [w]).set w (some (.int (i : Int))))[v]? = some (some (.int (k : Int))) := by
      rw [List.getElem?_set_ne (Ne.symm h1)]; show (σ.set w none)[v]? = _; rw [List.getElem?_set_ne (Ne.symm h1)]; exact hv
    have q2 : ((wipeS σ [w]).set w (some (.int (i : Int))))[u]? = some (some (.ref r)) := by
      rw [List.getElem?_set_ne (Ne.symm h2)]; show (σ.set w none)[u]? = _; rw [List.getElem?_set_ne (Ne.symm h2)]; exact hu
    have q3 : ((wipeS σ [w]).set w (some (.int (i : Int))))[w]? = some (some (.int (i : Int))) := by
      rw [List.getElem?_set_self (by simpa [wipeS] using hw)]
    refine ⟨_, rfl, ?_, fun _ => ?_⟩
    · have : decide ((((i &&& k : Nat) : Int)) = (i : Int)) = decide (i &&& k = i) := by
        rw [Bool.eq_iff_iff, decide_eq_true_eq, decide_eq_true_eq]; omega
      simp only [evE_cmp, evE_bin, evE_var, q1, q3, bind_ok, kBin_eq, band_nat, kCmp_eq, kCmp2_eq, eq_int, this]
    · have ix := ix_ints hr (i := i) (by rw [lF_len]; omega)
      rw [lF_get _ (by omega)] at ix
      simp only [evE_ix, evE_var, q2, q3, bind_ok, kIx_eq, kIx2_eq, ix]
  have i1 : intsOf (((List.range (k + 1)).filter fun p => decide (p &&& k = p)).map fun p => AV.int (f p)) = some (((List.range (k + 1)).filter fun p => decide (p &&& k = p)).map f) := by
    have := intsOf_map (((List.range (k + 1)).filter fun p => decide (p &&& k = p)).map f)
    rw [List.map_map] at this; exact this
  have i2 : (((List.range (k + 1)).filter fun p => decide (p &&& k = p)).map f).sum = sums n f k := by
    rw [filter_sum, sm_range]
    unfold sums
    obtain ⟨t, ht⟩ : ∃ t, 2 ^ n = (k + 1) + t := ⟨2 ^ n - (k + 1), by omega⟩
    rw [ht, sm_add (k + 1) _ t]
    have z : sm t (fun m => if Sh.sub n (k + 1 + m) k then f (k + 1 + m) else 0) = 0 := (sm_congr fun m hm => by
      have : Sh.sub n (k + 1 + m) k = false := by
        rw [← and_sub (by omega)]
        apply decide_eq_false
        intro h
        have := Nat.and_le_right (n := k + 1 + m) (m := k)
        omega
      rw [this]; rfl).trans (sm_zero t)
    rw [z, Int.add_zero]
    exact sm_congr fun p hp => by rw [and_sub (n := n) (by omega)]
  simp only [evE_lf, e, bind_ok, aLF, i1, i2]
/-! ### the law's planted book -/
def bSetBook : List S := [.asg (.name 2) (.new (.disp [])),
    .for_ (.name 3) (.range1 (.bif .len [(.var 1)])) [.expr (.mth .append (.var 2) [(.lf .sum (prtE 3 4 1))])],
    .asg (.name 5) (.new (.disp [])),
    .for_ (.name 3) (.range1 (.bif .len [(.var 1)])) [.asg (.name 6) (.new (.disp [])),
      .for_ (.name 7) (.range1 (.var 0)) [.asg (.name 8) (.bin .bor (.var 3) (.bin .shl (.lit (.int 1)) (.var 7))),
        .expr (.mth .append (.var 6) [(.tup [(.var 8), (.bin .sub (.ix (.var 2) (.var 8)) (.ix (.var 2) (.var 3)))])])],
      .expr (.mth .append (.var 5) [(.bif .tupof [(.var 6)])])],
    .ret (.bif .tupof [(.var 5)])]
def entP (K : Nat) (P : Nat → Int) (met kind : Nat) : Int × Int := (((met ||| 2 ^ kind : Nat) : Int), sums K P (met ||| 2 ^ kind) - sums K P met)
theorem bookP (K : Nat) (P : Nat → Int) : bookV (bkP K P) = .tup ((List.range (2 ^ K)).map fun met => .tup ((List.range K).map fun kind => pairV (entP K P met kind))) := by
  unfold bookV bkP
  rw [List.map_map]
  congr 1
  refine List.map_congr_left fun met _ => ?_
  show AV.tup _ = _
  rw [List.map_map]; rfl
theorem setbook_ev (c : Cfg) (A : AH) {K r : Nat} {P : Nat → Int} (hK : K ≤ 10) (hr : A[r]? = some (.lst ((lF (2 ^ K) P).map .int))) : ∃ A', (evSs c bSetBook [some (.int K), some (.ref r), none, none, none, none, none, none, none] A).fin = .ok (bookV (bkP K P)) A' ∧ Ex A A' := by
  have pN : 2 ^ K ≤ 1024 := Nat.pow_le_pow_right (show 0 < 2 by decide) hK
  have z1 : 1 ≤ sizeLine := Nat.le_of_lt (size_big (by omega))
  have z2 : 2 ≤ sizeLine := two_le'
  have hlen : ∀ B, B[r]? = some (.lst ((lF (2 ^ K) P).map .int)) → aBif .len [.ref r] B = .ok (.int ((2 ^ K : Nat) : Int)) B := fun B h => by
    have := len_ref h
    rw [List.length_map, lF_len] at this; exact this
  have loop1 : ∃ σ' A', evS c (.for_ (.name 3) (.range1 (.bif .len [(.var 1)])) [.expr (.mth .append (.var 2) [(.lf .sum (prtE 3 4 1))])]) [some (.int K), some (.ref r), some (.ref A.length), none, none, none, none, none, none] (A ++ [.lst []]) = .next σ' A' ∧
      ∃ o3 o4, σ' = [some (.int K), some (.ref r), some (.ref A.length), o3, o4, none, none, none, none] ∧ Ex A A' ∧ A'[A.length]? = some (.lst ((lF ((List.range (2 ^ K)).map fun (k : Nat) => AV.int (k : Int)).length (sums K P)).map .int)) := by
    have hr' := get_app hr [AO.lst []]
    rw [forN (n := 2 ^ K) (by simp [hlen _ hr']) (by omega)]
    refine for_end (fun j σ A' => ∃ o3 o4, σ = [some (.int K), some (.ref r), some (.ref A.length), o3, o4, none, none, none, none] ∧ Ex A A' ∧ A'[A.length]? = some (.lst ((lF j (sums K P)).map .int))) ⟨none, none, rfl, (Ex.refl A).app _, get_new _ _⟩ (fun _ _ _ _ _ => rfl) (fun j x σ A1 hx hj => ?_)
    obtain ⟨o3, o4, rfl, ex, hg⟩ := hj
    obtain ⟨hjn, rfl⟩ := range_get hx
    have s := part_sum c (σ := [some (.int K), some (.ref r), some (.ref A.length), some (.int (j : Int)), o4, none, none, none, none]) (v := 3) (w := 4) (u := 1) hK rfl rfl (ex.get hr) hjn (by simp) (by decide) (by decide)
    have ap := append_ref (x := .int (sums K P j)) hg (by rw [List.length_map, lF_len]; exact size_big (by omega))
    have e1 : (lF j (sums K P)).map AV.int ++ [.int (sums K P j)] = (lF (j + 1) (sums K P)).map .int := by
      unfold lF; rw [List.range_succ, List.map_append, List.map_append]; rfl
    rw [e1] at ap
    refine ⟨_, _, rfl, [some (.int K), some (.ref r), some (.ref A.length), some (.int (j : Int)), o4, none, none, none, none], _, ?_, _, _, rfl, ex.set (n := A.length) (Nat.le_refl _) (.lst ((lF (j + 1) (sums K P)).map .int)), get_set (get_lt hg)⟩
    simp only [evSs_cons, evS_expr, evE_mth, evE_var, List.getElem?_cons_zero, List.getElem?_cons_succ, List.set_cons_zero, List.set_cons_succ, bind_ok, kMth_eq, mthTy_ref hg, if_true, evEs_cons, s, kCons_eq, evEs_nil, kCons2_eq, ap, out_ok, kExpr_eq, seq_next, kSs_eq, evSs_nil]
  obtain ⟨σ1, A1, l1, o3, o4, rfl, ex1, hs⟩ := loop1
  rw [range_len] at hs
  have hn5 : A.length ≤ A1.length := ex1.len
  have g5 := get_new A1 (.lst [])
  have hs0 := get_app hs [AO.lst []]
  have ex2 := ex1.app [AO.lst []]
  have loop2 : ∃ σ' A', evS c (.for_ (.name 3) (.range1 (.bif .len [(.var 1)])) [.asg (.name 6) (.new (.disp [])),
      .for_ (.name 7) (.range1 (.var 0)) [.asg (.name 8) (.bin .bor (.var 3) (.bin .shl (.lit (.int 1)) (.var 7))),
        .expr (.mth .append (.var 6) [(.tup [(.var 8), (.bin .sub (.ix (.var 2) (.var 8)) (.ix (.var 2) (.var 3)))])])],
      .expr (.mth .append (.var 5) [(.bif .tupof [(.var 6)])])]) [some (.int K), some (.ref r), some (.ref A.length), o3, o4, some (.ref A1.length), none, none, none] (A1 ++ [.lst []]) = .next σ' A' ∧
      ∃ o3 o4 o6 o7 o8, σ' = [some (.int K), some (.ref r), some (.ref A.length), o3, o4, some (.ref A1.length), o6, o7, o8] ∧ Ex A A' ∧ A'[A.length]? = some (.lst ((lF (2 ^ K) (sums K P)).map .int)) ∧ A'[A1.length]? = some (.lst ((List.range ((List.range (2 ^ K)).map fun (k : Nat) => AV.int (k : Int)).length).map fun met => .tup ((List.range K).map fun kind => pairV (entP K P met kind)))) := by
    rw [forN (n := 2 ^ K) (by simp [hlen _ (ex2.get hr)]) (by omega)]
    refine for_end (fun j σ A' => ∃ o3 o4 o6 o7 o8, σ = [some (.int K), some (.ref r), some (.ref A.length), o3, o4, some (.ref A1.length), o6, o7, o8] ∧ Ex A A' ∧ A'[A.length]? = some (.lst ((lF (2 ^ K) (sums K P)).map .int)) ∧ A'[A1.length]? = some (.lst ((List.range j).map fun met => .tup ((List.range K).map fun kind => pairV (entP K P met kind))))) ⟨o3, o4, none, none, none, rfl, ex2, hs0, g5⟩ (fun _ _ _ _ _ => rfl) (fun j x σ B hx hj => ?_)
    obtain ⟨o3, o4, o6, o7, o8, rfl, ex, hsp, hrw⟩ := hj
    obtain ⟨hjn, rfl⟩ := range_get hx
    have hl5 : A1.length < B.length := get_lt hrw
    have g6 := get_new B (.lst [])
    have inner : ∃ σ' A', evS c (.for_ (.name 7) (.range1 (.var 0)) [.asg (.name 8) (.bin .bor (.var 3) (.bin .shl (.lit (.int 1)) (.var 7))),
        .expr (.mth .append (.var 6) [(.tup [(.var 8), (.bin .sub (.ix (.var 2) (.var 8)) (.ix (.var 2) (.var 3)))])])]) [some (.int K), some (.ref r), some (.ref A.length), some (.int (j : Int)), o4, some (.ref A1.length), some (.ref B.length), o7, o8] (B ++ [.lst []]) = .next σ' A' ∧
        ∃ o7 o8, σ' = [some (.int K), some (.ref r), some (.ref A.length), some (.int (j : Int)), o4, some (.ref A1.length), some (.ref B.length), o7, o8] ∧ Ex B A' ∧ A'[B.length]? = some (.lst ((List.range ((List.range K).map fun (k : Nat) => AV.int (k : Int)).length).map fun kind => pairV (entP K P j kind))) := by
      rw [forN (n := K) (by simp) (by omega)]
      refine for_end (fun i σ A' => ∃ o7 o8, σ = [some (.int K), some (.ref r), some (.ref A.length), some (.int (j : Int)), o4, some (.ref A1.length), some (.ref B.length), o7, o8] ∧ Ex B A' ∧ A'[B.length]? = some (.lst ((List.range i).map fun kind => pairV (entP K P j kind)))) ⟨o7, o8, rfl, (Ex.refl B).app _, g6⟩ (fun _ _ _ _ _ => rfl) (fun i x σ B2 hx hi => ?_)
      obtain ⟨o7, o8, rfl, exB, h6⟩ := hi
      obtain ⟨hik, rfl⟩ := range_get hx
      have b1 := shl1 i B2 (by omega)
      have b2 := bor_nat j (2 ^ i) B2
      have hlt := or_lt hjn hik
      have hspB := exB.get hsp
      have i1 := ix_ints hspB (i := j ||| 2 ^ i) (by rw [lF_len]; exact hlt)
      have i2 := ix_ints hspB (i := j) (by rw [lF_len]; exact hjn)
      rw [lF_get _ hlt] at i1
      rw [lF_get _ hjn] at i2
      have ap := append_ref (x := pairV (entP K P j i)) h6 (by simp only [List.length_map, List.length_range]; exact size_big (by omega))
      have e1 : (List.range i).map (fun kind => pairV (entP K P j kind)) ++ [pairV (entP K P j i)] = (List.range (i + 1)).map fun kind => pairV (entP K P j kind) := by rw [List.range_succ, List.map_append]; rfl
      rw [e1] at ap
      have ap : aMth .append (.ref B.length) [.tup [.int ((j ||| 2 ^ i : Nat) : Int), .int (sums K P (j ||| 2 ^ i) - sums K P j)]] B2 = .ok .non (B2.set B.length (.lst ((List.range (i + 1)).map fun kind => pairV (entP K P j kind)))) := ap
      refine ⟨_, _, rfl, [some (.int K), some (.ref r), some (.ref A.length), some (.int (j : Int)), o4, some (.ref A1.length), some (.ref B.length), some (.int (i : Int)), some (.int ((j ||| 2 ^ i : Nat) : Int))], _, ?_, _, _, rfl, exB.set (n := B.length) (Nat.le_refl _) (.lst ((List.range (i + 1)).map fun kind => pairV (entP K P j kind))), get_set (get_lt h6)⟩
      simp only [evSs_cons, evS_asg, evE_bin, evE_var, evE_lit, List.getElem?_cons_zero, List.getElem?_cons_succ, List.set_cons_zero, List.set_cons_succ, bind_ok, kBin_eq, b1, b2, out_ok, kAsg_eq, evTg_name, seq_next, kSs_eq, evS_expr, evE_mth, kMth_eq, mthTy_ref h6, if_true, evEs_cons, evE_tup, evE_ix, kIx_eq, kIx2_eq, i1, i2, sub_int, kCons_eq, evEs_nil, kCons2_eq, kTup_eq, List.length_cons, List.length_nil, Nat.zero_add, z2, ap, kExpr_eq, evSs_nil]
    obtain ⟨σ2, B2, i1, o7', o8', rfl, exB, h6⟩ := inner
    rw [range_len] at h6
    have hrw2 := exB.get hrw
    have ap := append_ref (x := .tup ((List.range K).map fun kind => pairV (entP K P j kind))) hrw2 (by simp only [List.length_map, List.length_range]; exact size_big (by omega))
    have e1 : (List.range j).map (fun met => AV.tup ((List.range K).map fun kind => pairV (entP K P met kind))) ++ [.tup ((List.range K).map fun kind => pairV (entP K P j kind))] = (List.range (j + 1)).map fun met => .tup ((List.range K).map fun kind => pairV (entP K P met kind)) := by rw [List.range_succ, List.map_append]; rfl
    rw [e1] at ap
    refine ⟨_, _, rfl, [some (.int K), some (.ref r), some (.ref A.length), some (.int (j : Int)), o4, some (.ref A1.length), some (.ref B.length), o7', o8'], _, ?_, _, _, _, _, _, rfl, (ex.trans exB).set (n := A1.length) hn5 (.lst ((List.range (j + 1)).map fun met => .tup ((List.range K).map fun kind => pairV (entP K P met kind)))), get_set_ne (exB.get hsp) (by have := get_lt hs; omega), get_set (get_lt hrw2)⟩
    simp only [evSs_cons, evS_asg, evE_new, evL_disp, evEs_nil, bind_ok, kDisp_eq, List.length_nil, Nat.zero_le, if_true, kNew_eq, out_ok, kAsg_eq, evTg_name, List.set_cons_zero, List.set_cons_succ, seq_next, kSs_eq, i1, evS_expr, evE_mth, evE_var, List.getElem?_cons_zero, List.getElem?_cons_succ, kMth_eq, mthTy_ref hrw2, evEs_cons, evE_bif, tupof_seq (seq_ref h6), kCons_eq, kCons2_eq, ap, kExpr_eq, evSs_nil]
  obtain ⟨σ2, A2, l2, o3', o4', o6, o7, o8, rfl, exf, _, hrw⟩ := loop2
  rw [range_len] at hrw
  refine ⟨A2, ?_, exf⟩
  rw [bookP]
  simp [bSetBook, l1, l2, tupof_seq (seq_ref hrw)]
end Ev


set_option linter.all false
set_option maxRecDepth 100000
set_option maxHeartbeats 8000000
namespace Ev
open PySem L2 Sh

/-! ### the planted numbers -/
def bPlanted : List S := [.asg (.name 2) (.new (.disp [])),
    .for_ (.name 3) (.v (.call "_law_groups" [(.var 1)] [])) [.expr (.mth .append (.var 2) [(.ix (.var 0) (.lf .sum (.comp [4] (.v (.var 3)) (.name 4) (.lit (.bl true)) (.bin .shl (.lit (.int 1)) (.ix (.var 1) (.var 4))))))])],
    .ret (.var 2)]
theorem sum_cast {α : Type} (f : α → Nat) : ∀ l : List α, (l.map fun x => ((f x : Nat) : Int)).sum = (((l.map f).sum : Nat) : Int)
  | [] => rfl
  | x :: r => by rw [List.map_cons, List.sum_cons, sum_cast f r, List.map_cons, List.sum_cons, Int.natCast_add]
theorem planted_ev (c : Cfg) (gi : lgroupsIs c) (A : AH) {K r : Nat} {P : Nat → Int} {l : List Int} (hl : inB l K) (nd : l.Nodup) (hz : l.length ≤ 10) (hK : K ≤ 10) (hr : A[r]? = some (.lst ((lF (2 ^ K) P).map .int))) : ∃ A' r', (evSs c bPlanted [some (.ref r), some (rowI l), none, none, none] A).fin = .ok (.ref r') A' ∧ Ex A A' ∧ A'[r']? = some (.lst ((lF (2 ^ l.length) fun m => P (km l m)).map .int)) := by
  have pN : 2 ^ l.length ≤ 1024 := Nat.pow_le_pow_right (show 0 < 2 by decide) hz
  have z1 : 1 ≤ sizeLine := Nat.le_of_lt (size_big (by omega))
  obtain ⟨A1, rg, e1, ex1, _, hg⟩ := gi (A ++ [.lst []]) l hz
  have g2 := ex1.get (get_new A (.lst []))
  have ex0 : Ex A A1 := ((Ex.refl A).app _).trans ex1
  have hr1 := ex0.get hr
  have nrg : rg ≠ A.length := fun e => by
    rw [e] at hg
    rw [hg] at g2
    have : grpL' l.length = [] := by injection g2 with h; injection h
    have := congrArg List.length this
    simp [grpL'] at this
  have loop : ∃ σ' A', evS c (.for_ (.name 3) (.v (.call "_law_groups" [(.var 1)] [])) [.expr (.mth .append (.var 2) [(.ix (.var 0) (.lf .sum (.comp [4] (.v (.var 3)) (.name 4) (.lit (.bl true)) (.bin .shl (.lit (.int 1)) (.ix (.var 1) (.var 4))))))])]) [some (.ref r), some (rowI l), some (.ref A.length), none, none] (A ++ [.lst []]) = .next σ' A' ∧
      ∃ o3 o4, σ' = [some (.ref r), some (rowI l), some (.ref A.length), o3, o4] ∧ Ex A A' ∧ A'[rg]? = some (.lst (grpL' l.length)) ∧ A'[A.length]? = some (.lst ((lF (grpL' l.length).length fun m => P (km l m)).map .int)) := by
    rw [forO (n := rg) (A' := A1) (xs := grpL' l.length) (by simp [e1]) hg]
    refine for_end (fun j σ A' => ∃ o3 o4, σ = [some (.ref r), some (rowI l), some (.ref A.length), o3, o4] ∧ Ex A A' ∧ A'[rg]? = some (.lst (grpL' l.length)) ∧ A'[A.length]? = some (.lst ((lF j fun m => P (km l m)).map .int))) ⟨none, none, rfl, ex0, hg, g2⟩ (fun j σ B _ h => ?_) (fun j x σ B hx hj => ?_)
    · obtain ⟨_, _, _, _, h, _⟩ := h; exact chk_obj h
    obtain ⟨o3, o4, rfl, ex, hgB, hB⟩ := hj
    unfold grpL' at hx
    rw [List.getElem?_map] at hx
    obtain ⟨m, hm, rfl⟩ := Option.map_eq_some_iff.mp hx
    obtain ⟨hjl, em⟩ := List.getElem?_eq_some_iff.mp hm
    rw [List.getElem_range] at em
    subst em
    rw [List.length_range] at hjl
    obtain ⟨klt, _⟩ := km_ok l hl nd j hjl
    have cm : evL c (.comp [4] (.v (.var 3)) (.name 4) (.lit (.bl true)) (.bin .shl (.lit (.int 1)) (.ix (.var 1) (.var 4)))) [some (.ref r), some (rowI l), some (.ref A.length), some (grpV l.length j), o4] B = .ok ((mem l.length j).map fun i => .int ((2 ^ (l.getD i 0).toNat : Nat) : Int)) B := by
      refine compMapV (c := c) (own := [4]) (t := .name 4) (elt := .bin .shl (.lit (.int 1)) (.ix (.var 1) (.var 4))) (σ := [some (.ref r), some (rowI l), some (.ref A.length), some (grpV l.length j), o4]) (e := .var 3) (L := mem l.length j) (g := fun (i : Nat) => AV.int (i : Int)) (fun i => .int ((2 ^ (l.getD i 0).toNat : Nat) : Int)) (by rw [← grp_nat]; rfl) (by rw [mem_len]; have := pc_le l.length j; exact Nat.le_of_lt (size_big (by omega))) fun i hi => ⟨_, rfl, ?_⟩
      obtain ⟨hil, _⟩ := mem_mem.mp hi
      have e2 : l[i]? = some (l.getD i 0) := by rw [List.getD_eq_getElem?_getD, List.getElem?_eq_getElem hil]; rfl
      have at1 := rowI_at e2 B
      have k0 := hl _ (List.mem_of_getElem? e2)
      have sh := shl1 (l.getD i 0).toNat B (by omega)
      rw [Int.toNat_of_nonneg k0.1] at sh
      simp only [wipeS, evE_bin, evE_lit, evE_ix, evE_var, List.getElem?_cons_zero, List.getElem?_cons_succ, List.set_cons_zero, List.set_cons_succ, bind_ok, kIx_eq, kIx2_eq, at1, kBin_eq, sh]
    have i1 : intsOf ((mem l.length j).map fun i => AV.int ((2 ^ (l.getD i 0).toNat : Nat) : Int)) = some ((mem l.length j).map fun i => ((2 ^ (l.getD i 0).toNat : Nat) : Int)) := by
      have := intsOf_map ((mem l.length j).map fun i => ((2 ^ (l.getD i 0).toNat : Nat) : Int))
      rw [List.map_map] at this; exact this
    have i2 : ((mem l.length j).map fun i => ((2 ^ (l.getD i 0).toNat : Nat) : Int)).sum = ((km l j : Nat) : Int) := sum_cast (fun i => 2 ^ (l.getD i 0).toNat) _
    have ix := ix_ints (ex.get hr) (i := km l j) (by rw [lF_len]; exact klt)
    rw [lF_get _ klt] at ix
    have ap := append_ref (x := .int (P (km l j))) hB (by rw [List.length_map, lF_len]; exact size_big (by omega))
    have es : (lF j fun m => P (km l m)).map AV.int ++ [.int (P (km l j))] = (lF (j + 1) fun m => P (km l m)).map .int := by
      unfold lF; rw [List.range_succ, List.map_append, List.map_append]; rfl
    rw [es] at ap
    refine ⟨_, _, rfl, [some (.ref r), some (rowI l), some (.ref A.length), some (grpV l.length j), o4], _, ?_, _, _, rfl, ex.set (n := A.length) (Nat.le_refl _) (.lst ((lF (j + 1) fun m => P (km l m)).map .int)), get_set_ne hgB nrg, get_set (get_lt hB)⟩
    simp only [evSs_cons, evS_expr, evE_mth, evE_var, List.getElem?_cons_zero, List.getElem?_cons_succ, List.set_cons_zero, List.set_cons_succ, bind_ok, kMth_eq, mthTy_ref hB, if_true, evEs_cons, evE_ix, kIx_eq, kIx2_eq, evE_lf, cm, aLF, i1, i2, ix, kCons_eq, evEs_nil, kCons2_eq, ap, out_ok, kExpr_eq, seq_next, kSs_eq, evSs_nil]
  obtain ⟨σ', A2, l1, o3, o4, rfl, ex, _, h2⟩ := loop
  have lg : (grpL' l.length).length = 2 ^ l.length := by simp [grpL']
  rw [lg] at h2
  exact ⟨A2, A.length, by simp [bPlanted, l1], ex, h2⟩
/-! ### a whole question -/
def bChecked : List S := [.asg (.name 4) (.call "_law_groups" [(.var 1)] []),
    .asg (.name 5) (.call "_law_group_costs" [(.var 0), (.var 1)] []),
    .asg (.name 6) (.call "_law_numbers" [(.var 2), (.var 4)] []),
    .if_ (.or (.cmp .is_ (.var 6) (.lit (.non))) (.cmp .ne (.var 6) (.call "_law_dividends" [(.var 5), (.bif .len [(.var 1)])] []))) [.ret (.lit (.non))] [],
    .for_ (.name 7) (.range1 (.bif .len [(.var 4)])) [.if_ (.cmp .ne (.ix (.var 5) (.var 7)) (.lf .sum (prtE 7 8 6))) [.ret (.lit (.non))] []],
    .if_ (.or (.not (.call "_law_is_tariff" [(.var 3), (.bif .len [(.var 1)])] [])) (.cmp .ne (.var 3) (.call "_law_parted_prices" [(.var 6), (.var 4), (.bif .len [(.var 1)])] []))) [.ret (.lit (.non))] [],
    .ret (.var 6)]
def tariffIs (c : Cfg) : Prop := ∀ A (ps : List (Int × Int)), ps.length ≤ 1000 → (∀ p ∈ ps, 1 ≤ p.2 ∧ p.2 < 2 ^ 64 ∧ Int.gcd p.1 p.2 = 1) → c.fn "_law_is_tariff" [.tup (ps.map pairV), .int (ps.length : Int)] A = .ok (.bl true) A
section
variable {bk : List (List (Int × Int))} {kinds states : Nat} {lo hi : Int}
abbrev dvG (bk : List (List (Int × Int))) (l : List Int) : Nat → Int := DV (fun m => (Sh.G bk l m).2) l.length
theorem due_ok (bk : List (List (Int × Int))) {l : List Int} (hz : l.length ≤ 10) : ∀ p ∈ dueL bk l, 1 ≤ p.2 ∧ p.2 < 2 ^ 64 ∧ Int.gcd p.1 p.2 = 1 := fun p hp => by
  have p3 := fac_lt10 hz
  obtain ⟨i, _, rfl⟩ := List.mem_map.mp hp
  exact ⟨by have := red_pos (x := mar l.length (shw l.length) (fun m => (Sh.G bk l m).2) i) p3.1; omega, by have := red_le' (x := mar l.length (shw l.length) (fun m => (Sh.G bk l m).2) i) p3.1; omega, red_cop p3.1⟩
theorem checked_ev (c : Cfg) (gi : lgroupsIs c) (ci : gcostIs c bk kinds) (ni : numbersIs c) (di : ldivsIs c) (ti : tariffIs c) (pi : partedIs c)
    (nep : ∀ (ps : List (Int × Int)) A, aCmp .ne (.tup (ps.map pairV)) (.tup (ps.map pairV)) A = some false)
    (A : AH) {l : List Int} (hl : inB l kinds) (hz : l.length ≤ 6) : ∃ A' r, (evSs c bChecked [some (bookV bk), some (rowI l), some (divV l.length (dvG bk l)), some (.tup ((dueL bk l).map pairV)), none, none, none, none, none] A).fin = .ok (.ref r) A' ∧ Ex A A' ∧ A'[r]? = some (.lst ((lF (2 ^ l.length) (dvG bk l)).map .int)) := by
  have pN : 2 ^ l.length ≤ 64 := Nat.pow_le_pow_right (show 0 < 2 by decide) hz
  obtain ⟨A1, rg, e1, x1, _, hg⟩ := gi A l (by omega)
  obtain ⟨A2, rc, e2, x2, hc⟩ := ci A1 l hl (by omega)
  rw [costs_lF] at hc
  have d0 : dvG bk l 0 = 0 := by
    show DV _ _ 0 = 0
    rw [DV_zero, G_nil]
  obtain ⟨A3, rn, e3, x3, _, hn⟩ := ni A2 l.length rg (dvG bk l) (by omega) d0 (x2.get hg)
  obtain ⟨A4, rd, e4, x4, _, hd⟩ := di A3 (fun m => (Sh.G bk l m).2) l.length rc (by omega) (x3.get hc)
  have hn4 := x4.get hn
  have ne1 := ne_lints A4 hn4 hd
  rw [decide_eq_true rfl] at ne1
  have hg4 := x4.get (x3.get (x2.get hg))
  have hc4 := x4.get (x3.get hc)
  have dl : (dueL bk l).length = l.length := by simp [dueL]
  have t := ti A4 (dueL bk l) (by omega) (due_ok bk (by omega))
  rw [dl] at t
  obtain ⟨A5, e5, x5⟩ := pi A4 l.length rn rg (dvG bk l) hz hn4 hg4
  rw [ppV_due bk hz] at e5
  have lg : aBif .len [.ref rg] A4 = .ok (.int ((2 ^ l.length : Nat) : Int)) A4 := by
    have := len_ref hg4
    rw [show (grpL' l.length).length = 2 ^ l.length by simp [grpL']] at this; exact this
  have is1 : ∀ B, aCmp .is_ (.ref rn) .non B = some false := fun B => rfl
  have loop : ∃ σ' A', evS c (.for_ (.name 7) (.range1 (.bif .len [(.var 4)])) [.if_ (.cmp .ne (.ix (.var 5) (.var 7)) (.lf .sum (prtE 7 8 6))) [.ret (.lit (.non))] []])
      [some (bookV bk), some (rowI l), some (divV l.length (dvG bk l)), some (.tup ((dueL bk l).map pairV)), some (.ref rg), some (.ref rc), some (.ref rn), none, none] A4 = .next σ' A' ∧ A' = A4 ∧ ∃ o7 o8, σ' = [some (bookV bk), some (rowI l), some (divV l.length (dvG bk l)), some (.tup ((dueL bk l).map pairV)), some (.ref rg), some (.ref rc), some (.ref rn), o7, o8] := by
    rw [forN (n := 2 ^ l.length) (by simp [lg]) (by omega)]
    refine for_end (fun j σ A' => A' = A4 ∧ ∃ o7 o8, σ = [some (bookV bk), some (rowI l), some (divV l.length (dvG bk l)), some (.tup ((dueL bk l).map pairV)), some (.ref rg), some (.ref rc), some (.ref rn), o7, o8]) ⟨rfl, none, none, rfl⟩ (fun _ _ _ _ _ => rfl) (fun j x σ B hx hj => ?_)
    obtain ⟨rfl, o7, o8, rfl⟩ := hj
    obtain ⟨hjn, rfl⟩ := range_get hx
    have s := part_sum c (σ := [some (bookV bk), some (rowI l), some (divV l.length (dvG bk l)), some (.tup ((dueL bk l).map pairV)), some (.ref rg), some (.ref rc), some (.ref rn), some (.int (j : Int)), o8]) (v := 7) (w := 8) (u := 6) (n := l.length) (by omega) rfl rfl hn4 hjn (by simp) (by decide) (by decide)
    rw [zeta _ _ _ hjn] at s
    have ix := ix_ints hc4 (i := j) (by rw [lF_len]; exact hjn)
    rw [lF_get _ hjn] at ix
    refine ⟨_, _, rfl, [some (bookV bk), some (rowI l), some (divV l.length (dvG bk l)), some (.tup ((dueL bk l).map pairV)), some (.ref rg), some (.ref rc), some (.ref rn), some (.int (j : Int)), o8], B, ?_, rfl, _, _, rfl⟩
    have ne2 : aCmp .ne (.int (Sh.G bk l j).2) (.int (Sh.G bk l j).2) B = some false := by
      have := ne_int (i := (Sh.G bk l j).2) (j := (Sh.G bk l j).2) (A := B)
      rw [this]; simp
    simp only [evSs_cons, evS_if, evE_cmp, evE_ix, evE_var, List.getElem?_cons_zero, List.getElem?_cons_succ, List.set_cons_zero, List.set_cons_succ, bind_ok, kIx_eq, kIx2_eq, ix, kCmp_eq, s, kCmp2_eq, ne2, tru_bl, out_ok, kIf_eq, Bool.false_eq_true, if_false, evSs_nil, seq_next, kSs_eq]
  obtain ⟨σ', A', l1, rfl, o7, o8, rfl⟩ := loop
  have ne3 := nep (dueL bk l) A5
  refine ⟨A5, rn, ?_, (((x1.trans x2).trans x3).trans x4).trans x5, x5.get hn4⟩
  simp only [bChecked, evSs_cons, evS_asg, evE_call, evEs_cons, evE_var, evE_lit, List.getElem?_cons_zero, List.getElem?_cons_succ, List.set_cons_zero, List.set_cons_succ, bind_ok, kCons_eq, evEs_nil, kCons2_eq, kCall_eq, List.append_nil, e1, e2, e3, out_ok, kAsg_eq, evTg_name, seq_next, kSs_eq, evS_if, evE_or, evE_cmp, kCmp_eq, kCmp2_eq, is1, kOr_eq, truth_bl, Bool.false_eq_true, if_false, evE_bif, len_row, e4, ne1, Bool.not_true, tru_bl, kIf_eq, evSs_nil, l1, evE_not, t, kNot_eq, e5, ne3, evS_ret, seq_ret, fin_ret]
end
/-! ### a shuffled row holds the same members -/
theorem erase_perm {α : Type} : ∀ {l : List α} {i : Nat} (h : i < l.length), (l[i] :: l.eraseIdx i).Perm l
  | [], _, h => by simp at h
  | x :: r, 0, _ => List.Perm.refl _
  | x :: r, i + 1, h => by
    have ih := erase_perm (l := r) (i := i) (by simpa using h)
    show (r[i]'(by simpa using h) :: x :: r.eraseIdx i).Perm (x :: r)
    exact (List.Perm.swap _ _ _).trans (List.Perm.cons x ih)
theorem shuf_perm (c : Cfg) (D : drawIs c) {A : AH} {d : Nat} {rv : AV} {xs : List AV} (h : Dr A d) (hr : seqOf A rv = some xs) (hz : xs.length ≤ 1000) : ∃ A' n ys, (evSs c bShuf [some (.ref d), some rv, none, none, none] A).fin = .ok (.ref n) A' ∧ Fr d A A' ∧ A.length ≤ n ∧ A'[n]? = some (.lst ys) ∧ ys.Perm xs := by
  have hd := h.lt
  have F0 : Fr d A (A ++ [.lst xs] ++ [.lst []]) := (Fr.app h _).trans (Fr.app (Fr.app h _).dr _)
  have lo : aBif .listof [rv] A = .ok (.ref A.length) (A ++ [.lst xs]) := by simp only [aBif, hr]
  have g2 := get_app (get_new A (.lst xs)) [AO.lst []]
  have g3 := get_new (A ++ [AO.lst xs]) (.lst [])
  rw [List.length_append, List.length_singleton] at g3
  have loop : ∃ σ' A', evS c (.for_ (.name 4) (.range1 (.bif .len [(.var 2)])) [.expr (.mth .append (.var 3) [(.mth .pop1 (.var 2) [(.call "_law_draw" [(.var 0), (.bif .len [(.var 2)])] [])])])]) [some (.ref d), some rv, some (.ref A.length), some (.ref (A.length + 1)), none] (A ++ [.lst xs] ++ [.lst []]) = .next σ' A' ∧
      ∃ o4 zs ys, σ' = [some (.ref d), some rv, some (.ref A.length), some (.ref (A.length + 1)), o4] ∧ Fr d A A' ∧ A'[A.length]? = some (.lst zs) ∧ A'[A.length + 1]? = some (.lst ys) ∧ zs.length + ys.length = xs.length ∧ ys.length = ((List.range xs.length).map fun (k : Nat) => AV.int k).length ∧ (zs ++ ys).Perm xs := by
    rw [forN (n := xs.length) (by have := len_ref g2; simp [-List.append_assoc, this]) (by omega)]
    refine for_end (fun i σ A' => ∃ o4 zs ys, σ = [some (.ref d), some rv, some (.ref A.length), some (.ref (A.length + 1)), o4] ∧ Fr d A A' ∧ A'[A.length]? = some (.lst zs) ∧ A'[A.length + 1]? = some (.lst ys) ∧ zs.length + ys.length = xs.length ∧ ys.length = i ∧ (zs ++ ys).Perm xs)
      ⟨none, xs, [], rfl, F0, g2, g3, by simp, rfl, by simp⟩ (fun _ _ _ _ _ => rfl) (fun i x σ A1 hx hi => ?_)
    obtain ⟨o4, zs, ys, rfl, F, h2, h3, hl, hy, hp⟩ := hi
    obtain ⟨hi, rfl⟩ := range_get hx
    refine ⟨_, _, rfl, ?_⟩
    obtain ⟨v, A2, e, p1, p2, F2⟩ := D A1 d zs.length F.dr (by omega) (by omega)
    have h2' : A2[A.length]? = some (.lst zs) := by rw [F2.old _ (get_lt h2) (by omega)]; exact h2
    have h3' : A2[A.length + 1]? = some (.lst ys) := by rw [F2.old _ (get_lt h3) (by omega)]; exact h3
    have sx := seqIndex_of (k := v) (n := zs.length) p1 p2
    have vl : v.toNat < zs.length := by omega
    have pop : aMth .pop1 (.ref A.length) [.int v] A2 = .ok zs[v.toNat] (A2.set A.length (.lst (zs.eraseIdx v.toNat))) := by
      have c1 : -(2 ^ 63) ≤ v ∧ v < 2 ^ 63 := by omega
      simp only [aMth, h2', if_pos c1, sx, List.getElem?_eq_getElem vl]
    have h3'' := get_set_ne (n := A.length) (o := .lst (zs.eraseIdx v.toNat)) h3' (by omega)
    have h2'' := get_set (n := A.length) (o := .lst (zs.eraseIdx v.toNat)) (get_lt h2')
    have ap := append_ref (x := zs[v.toNat]) h3'' (size_big (by omega))
    have t1 : mthTy .pop1 (.ref A.length) A1 = true := by simp only [mthTy, h2]; rfl
    have pm : (zs.eraseIdx v.toNat ++ (ys ++ [zs[v.toNat]])).Perm xs := by
      refine List.Perm.trans ?_ hp
      rw [← List.append_assoc]
      refine List.perm_append_comm.trans ?_
      rw [List.singleton_append, ← List.cons_append]
      exact List.Perm.append_right ys (erase_perm vl)
    refine ⟨[some (.ref d), some rv, some (.ref A.length), some (.ref (A.length + 1)), some (.int (i : Int))], _, ?_, _, zs.eraseIdx v.toNat, ys ++ [zs[v.toNat]], rfl, ((F.trans F2).setNew hd (Nat.le_refl _) (.lst (zs.eraseIdx v.toNat))).setNew hd (n := A.length + 1) (by omega) (.lst (ys ++ [zs[v.toNat]])), get_set_ne h2'' (by omega), get_set (by simp; exact get_lt h3'), ?_, by simp [hy], pm⟩
    · simp [mthTy_ref h3, t1, len_ref h2, e, pop, ap]
    · rw [List.length_eraseIdx, if_pos vl]; simp; omega
  obtain ⟨σ', A', h1, o4, zs, ys, rfl, F, h2, h3, hl, hy, hp⟩ := loop
  rw [range_len] at hy
  have hz0 : zs = [] := List.length_eq_zero_iff.mp (by omega)
  rw [hz0] at hp
  refine ⟨A', A.length + 1, ys, ?_, F, by omega, h3, by simpa using hp⟩
  simp only [List.append_assoc, List.cons_append, List.nil_append] at h1
  simp [bShuf, lo, h1]
end Ev


set_option linter.all false
set_option maxRecDepth 100000
set_option maxHeartbeats 8000000
namespace Ev
open PySem L2 Sh

/-! ### texts -/
def sOk (a : Str) : Prop := SeqAt.shaped (.str a) = true
theorem eq_strs {a b : Str} (h1 : sOk a) (h2 : sOk b) (A : AH) : aCmp .eq (.str a) (.str b) A = some (decide (a = b)) := by
  show (if SeqAt.shaped (.str a) && SeqAt.shaped (.str b) then some (PyData.eqv (.str a) (.str b)) else none) = _
  rw [h1, h2]
  have : PyData.eqv (.str a) (.str b) = decide (a = b) := by
    show (a == b) = _
    by_cases e : a = b
    · subst e; simp
    · simp [e]
  rw [this]; rfl
theorem strsOf_map : ∀ ns : List Str, strsOf (ns.map AV.str) = some ns
  | [] => rfl
  | n :: r => by rw [List.map_cons, strsOf, strsOf_map r]; rfl
theorem mkT_strs {ns : List Str} (h : ns ≠ []) : mkT (ns.map AV.str) = .pt ns := by
  unfold mkT
  rw [strsOf_map]
  cases ns with
  | nil => exact absurd rfl h
  | cons x r => rfl
theorem mkT_ints (ns : List Int) : mkT (ns.map AV.int) = .tup (ns.map AV.int) := by cases ns <;> rfl
theorem mkT_tups (ns : List (List AV)) : mkT (ns.map AV.tup) = .tup (ns.map AV.tup) := by cases ns <;> rfl
theorem in_pt (A : AH) (z : Str) (ys : List Str) : aIn A (.str z) (.pt ys) = some (decide (z ∈ ys)) := by
  show some ((ys.map AV.str).any fun y => eqFl y (.str z)) = _
  congr 1
  rw [List.any_map, Bool.eq_iff_iff, decide_eq_true_eq, List.any_eq_true]
  constructor
  · rintro ⟨y, hy, e⟩
    have e : (y == z) = true := e
    rw [← eq_of_beq e]; exact hy
  · exact fun h => ⟨z, h, beq_self_eq_true z⟩
theorem in_lints {A : AH} {n : Nat} {ns : List Int} (h : A[n]? = some (.lst (ns.map .int))) (x : Int) : aIn A (.int x) (.ref n) = some (decide (x ∈ ns)) := by
  have hd : dctOf A (.ref n) = none := by simp only [dctOf, h]
  have hs : seqOf A (.ref n) = some (ns.map .int) := by simp only [seqOf, h]
  have s1 : SeqAt.shaped (.int x) = true := rfl
  simp only [aIn, hd, hs, pd0, pds_ints, s1, shaped_lst_ints, Bool.and_self, if_true]
  congr 1
  rw [List.any_map, Bool.eq_iff_iff, decide_eq_true_eq, List.any_eq_true]
  constructor
  · rintro ⟨y, hy, e⟩
    have e : (y == x) = true := e
    rw [← eq_of_beq e]; exact hy
  · exact fun h => ⟨x, h, beq_self_eq_true x⟩
theorem idx_pt {A : AH} {ks : List Str} {z : Str} (h : z ∈ ks) : aMth .index1 (.pt ks) [.str z] A = .ok (.int (ks.idxOf z : Nat)) A := by simp only [aMth, if_pos h]
/-! ### kinds, rows, members -/
def kd (ks : List Str) (k : Int) : Str := ks.getD k.toNat default
theorem kd_at {ks : List Str} {k : Int} (h0 : 0 ≤ k) (h1 : k < ks.length) (A : AH) : aIx (.pt ks) (.int k) A = some (.str (kd ks k)) := by
  obtain ⟨n, rfl⟩ : ∃ n : Nat, k = n := ⟨k.toNat, by omega⟩
  have hn : n < ks.length := by omega
  show atI (ks.map AV.str) (n : Int) = _
  refine atI_nat ?_
  unfold kd
  rw [List.getElem?_map, List.getElem?_eq_getElem hn, Int.toNat_natCast, List.getD_eq_getElem?_getD, List.getElem?_eq_getElem hn]; rfl
theorem kd_idx {ks : List Str} (nd : ks.Nodup) {k : Int} (h0 : 0 ≤ k) (h1 : k < ks.length) {z : Str} (hz : z ∈ ks) : k = (ks.idxOf z : Nat) ↔ kd ks k = z := by
  obtain ⟨n, rfl⟩ : ∃ n : Nat, k = n := ⟨k.toNat, by omega⟩
  have hn : n < ks.length := by omega
  have hi := List.idxOf_lt_length_iff.mpr hz
  have e1 : kd ks (n : Int) = ks[n] := by
    unfold kd
    rw [Int.toNat_natCast, List.getD_eq_getElem?_getD, List.getElem?_eq_getElem hn]; rfl
  have e2 : ks[ks.idxOf z] = z := List.getElem_idxOf hi
  rw [e1]
  constructor
  · intro e
    have e : n = ks.idxOf z := by omega
    subst e; exact e2
  · intro e
    have : ks[n] = ks[ks.idxOf z] := e.trans e2.symm
    have := (List.getElem_inj nd).mp this
    omega
def memb (ks names : List Str) (row : List Int) : List Int := row.filter fun k => decide (kd ks k ∈ names)
theorem memb_in {ks names : List Str} {row : List Int} {M : Nat} (h : inB row M) : inB (memb ks names row) M := fun k hk => h k (List.mem_filter.mp hk).1
theorem memb_len (ks names : List Str) (row : List Int) : (memb ks names row).length ≤ row.length := List.length_filter_le _ _
def bSuch : List S := [.asg (.name 3) (.new (.comp [4] (.v (.var 1)) (.name 4) (.lit (.bl true)) (.mth .index1 (.var 0) [(.var 4)]))),
    .ret (.lf .tups (.comp [5] (.v (.var 2)) (.name 5) (.cmp .in_ (.var 5) (.var 3)) (.var 5)))]
def bMembers : List S := [.ret (.lf .tups (.comp [3] (.v (.var 2)) (.name 3) (.cmp .in_ (.ix (.var 0) (.var 3)) (.var 1)) (.var 3)))]
theorem compMapP {c : Cfg} {own : List Nat} {t : T} {elt : E} {σ : Sl} {A : AH} {e : E} {L : List Str} (f : Str → AV) (h : evE c e σ A = .ok (.pt L) A) (hz : L.length ≤ sizeLine)
    (hs : ∀ x ∈ L, ∃ σ2, evTg c t (.str x) (wipeS σ own) A = .ok σ2 A ∧ evE c elt σ2 A = .ok (f x) A) : evL c (.comp own (.v e) t (.lit (.bl true)) elt) σ A = .ok (L.map f) A := by
  rw [evL_comp, evI_v, h]
  have := comp_filt (chk := (Itm.val (L.map AV.str)).chk) (tg := fun x A => evTg c t x (wipeS σ own) A) (q := fun σ A => (evE c (.lit (.bl true)) σ A).bind tru) (elt := fun σ A => evE c elt σ A) (L := L) (g := AV.str) (A := A) (fun _ => true) f hz rfl (fun x hx => by
    obtain ⟨σ2, a, b⟩ := hs x hx
    exact ⟨σ2, a, rfl, fun _ => b⟩)
  rw [List.filter_eq_self.mpr (fun _ _ => rfl)] at this
  exact this
theorem compFiltT {c : Cfg} {own : List Nat} {t : T} {q elt : E} {σ : Sl} {A : AH} {e : E} {α : Type} {L : List α} {g : α → AV} (p : α → Bool) (f : α → AV) (h : evE c e σ A = .ok (.tup (L.map g)) A) (hz : L.length ≤ sizeLine)
    (hs : ∀ x ∈ L, ∃ σ2, evTg c t (g x) (wipeS σ own) A = .ok σ2 A ∧ evE c q σ2 A = .ok (.bl (p x)) A ∧ (p x = true → evE c elt σ2 A = .ok (f x) A)) : evL c (.comp own (.v e) t q elt) σ A = .ok ((L.filter p).map f) A := by
  rw [compV h]
  exact comp_filt p f hz rfl fun x hx => by
    obtain ⟨σ2, a, b, d⟩ := hs x hx
    exact ⟨σ2, a, by show (evE c q σ2 A).bind tru = _; rw [b]; rfl, d⟩
section
variable {ks : List Str} {M : Nat} (nd : ks.Nodup) (hM : ks.length = M) (hM6 : M ≤ 6)
/-- names of kinds -/
structure NmOk (ks names : List Str) : Prop where
  sub : ∀ z ∈ names, z ∈ ks
  len : names.length ≤ 6
  ne : names ≠ []
include nd hM in
theorem such_ev (c : Cfg) (A : AH) {names : List Str} (h : NmOk ks names) {row : List Int} (hr : inB row M) (hz : row.length ≤ 10000) : ∃ A', (evSs c bSuch [some (.pt ks), some (.pt names), some (rowI row), none, none, none] A).fin = .ok (rowI (memb ks names row)) A' ∧ Ex A A' := by
  have e1 : evL c (.comp [4] (.v (.var 1)) (.name 4) (.lit (.bl true)) (.mth .index1 (.var 0) [(.var 4)])) [some (.pt ks), some (.pt names), some (rowI row), none, none, none] A = .ok (names.map fun z => .int (ks.idxOf z : Nat)) A := by
    refine compMapP (c := c) (own := [4]) (t := .name 4) (elt := .mth .index1 (.var 0) [(.var 4)]) (σ := [some (.pt ks), some (.pt names), some (rowI row), none, none, none]) (e := .var 1) (L := names) (fun z => .int (ks.idxOf z : Nat)) rfl (Nat.le_of_lt (size_big (by have := h.len; omega))) fun z hz => ⟨_, rfl, ?_⟩
    have i := idx_pt (A := A) (h.sub z hz)
    simp only [wipeS, evE_mth, evE_var, List.getElem?_cons_zero, List.getElem?_cons_succ, List.set_cons_zero, List.set_cons_succ, bind_ok, kMth_eq, evEs_cons, kCons_eq, evEs_nil, kCons2_eq, i]
    rfl
  have g := get_new A (.lst ((names.map fun z => ((ks.idxOf z : Nat) : Int)).map .int))
  have em : (names.map fun z => AV.int (ks.idxOf z : Nat)) = (names.map fun z => ((ks.idxOf z : Nat) : Int)).map .int := by rw [List.map_map]; rfl
  rw [em] at e1
  have e2 : evL c (.comp [5] (.v (.var 2)) (.name 5) (.cmp .in_ (.var 5) (.var 3)) (.var 5)) [some (.pt ks), some (.pt names), some (rowI row), some (.ref A.length), none, none] (A ++ [.lst ((names.map fun z => ((ks.idxOf z : Nat) : Int)).map .int)]) = .ok ((memb ks names row).map .int) (A ++ [.lst ((names.map fun z => ((ks.idxOf z : Nat) : Int)).map .int)]) := by
    refine compFiltT (c := c) (own := [5]) (t := .name 5) (q := .cmp .in_ (.var 5) (.var 3)) (elt := .var 5) (σ := [some (.pt ks), some (.pt names), some (rowI row), some (.ref A.length), none, none]) (e := .var 2) (L := row) (g := AV.int) (fun k => decide (kd ks k ∈ names)) AV.int rfl (Nat.le_of_lt (size_big (by omega))) fun k hk => ⟨_, rfl, ?_, fun _ => rfl⟩
    have hk2 := hr k hk
    have i := in_lints g k
    have eq : decide (k ∈ names.map fun z => ((ks.idxOf z : Nat) : Int)) = decide (kd ks k ∈ names) := by
      rw [Bool.eq_iff_iff, decide_eq_true_eq, decide_eq_true_eq, List.mem_map]
      constructor
      · rintro ⟨z, hz, e⟩
        rw [(kd_idx nd hk2.1 (by rw [hM]; exact hk2.2) (h.sub z hz)).mp e.symm]; exact hz
      · intro hz
        exact ⟨_, hz, ((kd_idx nd hk2.1 (by rw [hM]; exact hk2.2) (h.sub _ hz)).mpr rfl).symm⟩
    rw [eq] at i
    have i : aCmp .in_ (.int k) (.ref A.length) (A ++ [.lst ((names.map fun z => ((ks.idxOf z : Nat) : Int)).map .int)]) = some (decide (kd ks k ∈ names)) := i
    simp only [wipeS, evE_cmp, evE_var, List.getElem?_cons_zero, List.getElem?_cons_succ, List.set_cons_zero, List.set_cons_succ, bind_ok, kCmp_eq, kCmp2_eq, i]
  refine ⟨_, ?_, (Ex.refl A).app [.lst ((names.map fun z => ((ks.idxOf z : Nat) : Int)).map .int)]⟩
  simp only [bSuch, evSs_cons, evS_asg, evE_new, e1, bind_ok, kNew_eq, out_ok, kAsg_eq, evTg_name, List.set_cons_zero, List.set_cons_succ, seq_next, kSs_eq, evS_ret, evE_lf, e2, aLF, mkT_ints, seq_ret, fin_ret]
  rfl
include nd hM in
theorem members_ev (c : Cfg) (A : AH) {names : List Str} (h : NmOk ks names) {row : List Int} (hr : inB row M) (hz : row.length ≤ 10000) : (evSs c bMembers [some (.pt ks), some (.pt names), some (rowI row), none] A).fin = .ok (rowI (memb ks names row)) A := by
  have e2 : evL c (.comp [3] (.v (.var 2)) (.name 3) (.cmp .in_ (.ix (.var 0) (.var 3)) (.var 1)) (.var 3)) [some (.pt ks), some (.pt names), some (rowI row), none] A = .ok ((memb ks names row).map .int) A := by
    refine compFiltT (c := c) (own := [3]) (t := .name 3) (q := .cmp .in_ (.ix (.var 0) (.var 3)) (.var 1)) (elt := .var 3) (σ := [some (.pt ks), some (.pt names), some (rowI row), none]) (e := .var 2) (L := row) (g := AV.int) (fun k => decide (kd ks k ∈ names)) AV.int rfl (Nat.le_of_lt (size_big (by omega))) fun k hk => ⟨_, rfl, ?_, fun _ => rfl⟩
    have hk2 := hr k hk
    have ix := kd_at (ks := ks) hk2.1 (by rw [hM]; exact hk2.2) A
    have i : aCmp .in_ (.str (kd ks k)) (.pt names) A = some (decide (kd ks k ∈ names)) := in_pt A _ _
    simp only [wipeS, evE_cmp, evE_ix, evE_var, List.getElem?_cons_zero, List.getElem?_cons_succ, List.set_cons_zero, List.set_cons_succ, bind_ok, kIx_eq, kIx2_eq, ix, kCmp_eq, kCmp2_eq, i]
  simp only [bMembers, evSs_cons, evS_ret, evE_lf, e2, bind_ok, aLF, mkT_ints, out_ok, seq_ret, fin_ret]
  rfl
end
end Ev


set_option linter.all false
set_option maxRecDepth 100000
set_option maxHeartbeats 8000000
namespace Ev
open PySem L2 Sh

theorem ixT {xs : List AV} {i : Nat} {v : AV} (h : xs[i]? = some v) (A : AH) : aIx (.tup xs) (.int (i : Int)) A = some v := atI_nat h
def pairT (p : Str × Int) : AV := .tup [.str p.1, .int p.2]
/-! ### top -/
def isMx (Q : Str × Int → Prop) (b : Int) : Prop := 0 ≤ b ∧ (b = 0 ∨ ∃ p, Q p ∧ b = p.2) ∧ ∀ p, Q p → p.2 ≤ b
theorem isMx_uniq {Q : Str × Int → Prop} {a b : Int} (ha : isMx Q a) (hb : isMx Q b) : a = b := by
  obtain ⟨a0, a1, a2⟩ := ha
  obtain ⟨b0, b1, b2⟩ := hb
  have h1 : a ≤ b := by
    rcases a1 with e | ⟨p, hp, e⟩
    · omega
    · have := b2 p hp; omega
  have h2 : b ≤ a := by
    rcases b1 with e | ⟨p, hp, e⟩
    · omega
    · have := a2 p hp; omega
  omega
theorem isMx_iff {Q Q' : Str × Int → Prop} (h : ∀ p, Q p ↔ Q' p) {a : Int} (ha : isMx Q a) : isMx Q' a :=
  ⟨ha.1, ha.2.1.imp id fun ⟨p, hp, e⟩ => ⟨p, (h p).mp hp, e⟩, fun p hp => ha.2.2 p ((h p).mpr hp)⟩
theorem isMx_none : isMx (fun _ => False) 0 := ⟨Int.le_refl 0, .inl rfl, fun _ h => h.elim⟩
theorem isMx_more {Q : Str × Int → Prop} {b : Int} (h : isMx Q b) (p : Str × Int) : isMx (fun q => Q q ∨ q = p) (if p.2 > b then p.2 else b) := by
  obtain ⟨h0, h1, h2⟩ := h
  by_cases c : p.2 > b
  · rw [if_pos c]
    refine ⟨by omega, .inr ⟨p, .inr rfl, rfl⟩, fun q hq => ?_⟩
    rcases hq with hq | rfl
    · have := h2 q hq; omega
    · omega
  · rw [if_neg c]
    refine ⟨h0, h1.imp id fun ⟨q, hq, e⟩ => ⟨q, .inl hq, e⟩, fun q hq => ?_⟩
    rcases hq with hq | rfl
    · exact h2 q hq
    · omega
def topV (ks : List Str) (ps : List (Str × Int)) (row : List Int) : Int := ps.foldl (fun b p => if ((ks.idxOf p.1 : Nat) : Int) ∈ row then (if p.2 > b then p.2 else b) else b) 0
theorem topV_snoc (ks : List Str) (ps : List (Str × Int)) (p : Str × Int) (row : List Int) : topV ks (ps ++ [p]) row = if ((ks.idxOf p.1 : Nat) : Int) ∈ row then (if p.2 > topV ks ps row then p.2 else topV ks ps row) else topV ks ps row := by
  unfold topV; rw [List.foldl_append]; rfl
theorem snocP {α : Type} {P : List α → Prop} (h0 : P []) (hs : ∀ l k, P l → P (l ++ [k])) : ∀ l, P l := by
  have : ∀ n (l : List α), l.length = n → P l := by
    intro n
    induction n with
    | zero => intro l h; rw [List.length_eq_zero_iff.mp h]; exact h0
    | succ n ih =>
      intro l h
      rcases List.eq_nil_or_concat l with e | ⟨L, b, e⟩
      · subst e; exact h0
      · rw [List.concat_eq_append] at e
        subst e
        rw [List.length_append, List.length_singleton] at h
        exact hs L b (ih L (by omega))
  exact fun l => this _ l rfl
theorem topV_mx (ks : List Str) (row : List Int) : ∀ ps : List (Str × Int), isMx (fun p => p ∈ ps ∧ ((ks.idxOf p.1 : Nat) : Int) ∈ row) (topV ks ps row) := by
  refine snocP (isMx_iff (fun p => by simp) isMx_none) fun ps p ih => ?_
  rw [topV_snoc]
  by_cases c : ((ks.idxOf p.1 : Nat) : Int) ∈ row
  · rw [if_pos c]
    refine isMx_iff (fun q => ?_) (isMx_more ih p)
    rw [List.mem_append, List.mem_singleton]
    constructor
    · rintro (⟨h, h'⟩ | rfl)
      · exact ⟨.inl h, h'⟩
      · exact ⟨.inr rfl, c⟩
    · rintro ⟨h | h, h'⟩
      · exact .inl ⟨h, h'⟩
      · exact .inr h
  · rw [if_neg c]
    refine isMx_iff (fun q => ?_) ih
    rw [List.mem_append, List.mem_singleton]
    constructor
    · rintro ⟨h, h'⟩; exact ⟨.inl h, h'⟩
    · rintro ⟨h | rfl, h'⟩
      · exact ⟨h, h'⟩
      · exact absurd h' c
def bTop : List S := [.asg (.name 3) (.lit (.int 0)),
    .for_ (.tup [(.name 4), (.name 5)]) (.v (.var 1)) [.if_ (.cmp .in_ (.mth .index1 (.var 0) [(.var 4)]) (.var 2)) [.asg (.name 3) (.bif .max2 [(.var 3), (.var 5)])] []],
    .ret (.var 3)]
def bWTop : List S := [.asg (.name 3) (.lit (.int 0)),
    .for_ (.name 4) (.v (.var 2)) [.for_ (.tup [(.name 5), (.name 6)]) (.v (.var 1)) [.if_ (.and (.cmp .eq (.var 5) (.ix (.var 0) (.var 4))) (.cmp .gt (.var 6) (.var 3))) [.asg (.name 3) (.var 6)] []]],
    .ret (.var 3)]
section
variable {ks : List Str} {M : Nat}
theorem top_ev (c : Cfg) (A : AH) {ps : List (Str × Int)} (h : ∀ p ∈ ps, p.1 ∈ ks) (row : List Int) : (evSs c bTop [some (.pt ks), some (.tup (ps.map pairT)), some (rowI row), none, none, none] A).fin = .ok (.int (topV ks ps row)) A := by
  have loop : ∃ σ' A', evS c (.for_ (.tup [(.name 4), (.name 5)]) (.v (.var 1)) [.if_ (.cmp .in_ (.mth .index1 (.var 0) [(.var 4)]) (.var 2)) [.asg (.name 3) (.bif .max2 [(.var 3), (.var 5)])] []]) [some (.pt ks), some (.tup (ps.map pairT)), some (rowI row), some (.int 0), none, none] A = .next σ' A' ∧
      A' = A ∧ ∃ o4 o5, σ' = [some (.pt ks), some (.tup (ps.map pairT)), some (rowI row), some (.int (topV ks (ps.take (ps.map pairT).length) row)), o4, o5] := by
    rw [forV (xs := ps.map pairT) rfl]
    refine for_end (fun i σ A' => A' = A ∧ ∃ o4 o5, σ = [some (.pt ks), some (.tup (ps.map pairT)), some (rowI row), some (.int (topV ks (ps.take i) row)), o4, o5]) ⟨rfl, none, none, rfl⟩ (fun _ _ _ _ _ => rfl) (fun i x σ B hx hi => ?_)
    obtain ⟨rfl, o4, o5, rfl⟩ := hi
    rw [List.getElem?_map] at hx
    obtain ⟨p, hp, rfl⟩ := Option.map_eq_some_iff.mp hx
    have ix := idx_pt (A := B) (h p (List.mem_of_getElem? hp))
    have hin : aCmp .in_ (.int (ks.idxOf p.1 : Nat)) (rowI row) B = some (decide (((ks.idxOf p.1 : Nat) : Int) ∈ row)) := in_ints B _ _
    refine ⟨[some (.pt ks), some (.tup (ps.map pairT)), some (rowI row), some (.int (topV ks (ps.take i) row)), some (.str p.1), some (.int p.2)], B, by simp [pairT, evTg_tup], [some (.pt ks), some (.tup (ps.map pairT)), some (rowI row), some (.int (topV ks (ps.take (i + 1)) row)), some (.str p.1), some (.int p.2)], B, ?_, rfl, _, _, rfl⟩
    rw [take_get hp, topV_snoc]
    by_cases cc : ((ks.idxOf p.1 : Nat) : Int) ∈ row
    · rw [decide_eq_true cc] at hin
      simp only [evSs_cons, evS_if, evE_cmp, evE_mth, evE_var, List.getElem?_cons_zero, List.getElem?_cons_succ, List.set_cons_zero, List.set_cons_succ, bind_ok, kMth_eq, evEs_cons, kCons_eq, evEs_nil, kCons2_eq, show mthTy .index1 (.pt ks) B = true from rfl, if_true, ix, kCmp_eq, kCmp2_eq, hin, tru_bl, out_ok, kIf_eq, evS_asg, evE_bif, kAsg_eq, evTg_name, seq_next, kSs_eq, evSs_nil, aBif, if_pos cc]
    · rw [decide_eq_false cc] at hin
      simp only [evSs_cons, evS_if, evE_cmp, evE_mth, evE_var, List.getElem?_cons_zero, List.getElem?_cons_succ, List.set_cons_zero, List.set_cons_succ, bind_ok, kMth_eq, evEs_cons, kCons_eq, evEs_nil, kCons2_eq, show mthTy .index1 (.pt ks) B = true from rfl, if_true, ix, kCmp_eq, kCmp2_eq, hin, tru_bl, out_ok, kIf_eq, Bool.false_eq_true, if_false, seq_next, kSs_eq, evSs_nil, if_neg cc]
  obtain ⟨σ', A', h1, rfl, o4, o5, rfl⟩ := loop
  rw [List.length_map, List.take_length] at h1
  simp [bTop, h1]
theorem wtop_ev (nd : ks.Nodup) (hM : ks.length = M) (hs : ∀ z ∈ ks, sOk z) (c : Cfg) (A : AH) {ps : List (Str × Int)} (h : ∀ p ∈ ps, p.1 ∈ ks) {row : List Int} (hr : inB row M) : (evSs c bWTop [some (.pt ks), some (.tup (ps.map pairT)), some (rowI row), none, none, none, none] A).fin = .ok (.int (topV ks ps row)) A := by
  have loop : ∃ σ' A', evS c (.for_ (.name 4) (.v (.var 2)) [.for_ (.tup [(.name 5), (.name 6)]) (.v (.var 1)) [.if_ (.and (.cmp .eq (.var 5) (.ix (.var 0) (.var 4))) (.cmp .gt (.var 6) (.var 3))) [.asg (.name 3) (.var 6)] []]]) [some (.pt ks), some (.tup (ps.map pairT)), some (rowI row), some (.int 0), none, none, none] A = .next σ' A' ∧
      A' = A ∧ ∃ b o4 o5 o6, σ' = [some (.pt ks), some (.tup (ps.map pairT)), some (rowI row), some (.int b), o4, o5, o6] ∧ isMx (fun p => p ∈ ps ∧ ∃ k ∈ row.take (row.map AV.int).length, kd ks k = p.1) b := by
    rw [forV (xs := row.map AV.int) rfl]
    refine for_end (fun i σ A' => A' = A ∧ ∃ b o4 o5 o6, σ = [some (.pt ks), some (.tup (ps.map pairT)), some (rowI row), some (.int b), o4, o5, o6] ∧ isMx (fun p => p ∈ ps ∧ ∃ k ∈ row.take i, kd ks k = p.1) b) ⟨rfl, 0, none, none, none, rfl, isMx_iff (fun p => by simp) isMx_none⟩ (fun _ _ _ _ _ => rfl) (fun i x σ B hx hi => ?_)
    obtain ⟨rfl, b0, o4, o5, o6, rfl, mx⟩ := hi
    obtain ⟨k, hk, rfl⟩ := row_get hx
    have hk2 := hr k (List.mem_of_getElem? hk)
    have ix := kd_at (ks := ks) hk2.1 (by rw [hM]; exact hk2.2) B
    have inner : ∃ σ' A', evS c (.for_ (.tup [(.name 5), (.name 6)]) (.v (.var 1)) [.if_ (.and (.cmp .eq (.var 5) (.ix (.var 0) (.var 4))) (.cmp .gt (.var 6) (.var 3))) [.asg (.name 3) (.var 6)] []]) [some (.pt ks), some (.tup (ps.map pairT)), some (rowI row), some (.int b0), some (.int k), o5, o6] B = .next σ' A' ∧
        A' = B ∧ ∃ b o5 o6, σ' = [some (.pt ks), some (.tup (ps.map pairT)), some (rowI row), some (.int b), some (.int k), o5, o6] ∧ isMx (fun p => (p ∈ ps ∧ ∃ k ∈ row.take i, kd ks k = p.1) ∨ (p ∈ ps.take (ps.map pairT).length ∧ kd ks k = p.1)) b := by
      rw [forV (xs := ps.map pairT) rfl]
      refine for_end (fun j σ A' => A' = B ∧ ∃ b o5 o6, σ = [some (.pt ks), some (.tup (ps.map pairT)), some (rowI row), some (.int b), some (.int k), o5, o6] ∧ isMx (fun p => (p ∈ ps ∧ ∃ k ∈ row.take i, kd ks k = p.1) ∨ (p ∈ ps.take j ∧ kd ks k = p.1)) b) ⟨rfl, b0, o5, o6, rfl, isMx_iff (fun p => by simp) mx⟩ (fun _ _ _ _ _ => rfl) (fun j x σ B2 hx hj => ?_)
      obtain ⟨rfl, b, o5, o6, rfl, mx⟩ := hj
      rw [List.getElem?_map] at hx
      obtain ⟨p, hp, rfl⟩ := Option.map_eq_some_iff.mp hx
      have hpk := h p (List.mem_of_getElem? hp)
      have eq := eq_strs (hs _ hpk) (hs (kd ks k) (by
        have hn : k.toNat < ks.length := by omega
        unfold kd
        rw [List.getD_eq_getElem?_getD, List.getElem?_eq_getElem hn]; exact List.getElem_mem hn)) B2
      refine ⟨[some (.pt ks), some (.tup (ps.map pairT)), some (rowI row), some (.int b), some (.int k), some (.str p.1), some (.int p.2)], B2, by simp [pairT, evTg_tup], ?_⟩
      by_cases c1 : p.1 = kd ks k
      · rw [decide_eq_true c1] at eq
        have mm := isMx_iff (Q' := fun q => (q ∈ ps ∧ ∃ k ∈ row.take i, kd ks k = q.1) ∨ (q ∈ ps.take (j + 1) ∧ kd ks k = q.1)) (fun q => by
          rw [take_get hp, List.mem_append, List.mem_singleton]
          constructor
          · rintro ((z | ⟨z, z'⟩) | rfl)
            · exact .inl z
            · exact .inr ⟨.inl z, z'⟩
            · exact .inr ⟨.inr rfl, c1.symm⟩
          · rintro (z | ⟨z | z, z'⟩)
            · exact .inl (.inl z)
            · exact .inl (.inr ⟨z, z'⟩)
            · exact .inr z) (isMx_more mx p)
        by_cases c2 : p.2 > b
        · rw [if_pos c2] at mm
          refine ⟨[some (.pt ks), some (.tup (ps.map pairT)), some (rowI row), some (.int p.2), some (.int k), some (.str p.1), some (.int p.2)], B2, ?_, rfl, _, _, _, rfl, mm⟩
          have gt : aCmp .gt (.int p.2) (.int b) B2 = some true := by
            have c3 : b < p.2 := c2
            rw [gt_int, decide_eq_true c3]
          simp only [evSs_cons, evS_if, evE_and, evE_cmp, evE_ix, evE_var, List.getElem?_cons_zero, List.getElem?_cons_succ, List.set_cons_zero, List.set_cons_succ, bind_ok, kIx_eq, kIx2_eq, ix, kCmp_eq, kCmp2_eq, eq, kAnd_eq, truth_bl, gt, tru_bl, out_ok, kIf_eq, if_true, evS_asg, kAsg_eq, evTg_name, seq_next, kSs_eq, evSs_nil]
        · rw [if_neg c2] at mm
          refine ⟨[some (.pt ks), some (.tup (ps.map pairT)), some (rowI row), some (.int b), some (.int k), some (.str p.1), some (.int p.2)], B2, ?_, rfl, _, _, _, rfl, mm⟩
          have gt : aCmp .gt (.int p.2) (.int b) B2 = some false := by
            have c3 : ¬ b < p.2 := c2
            rw [gt_int, decide_eq_false c3]
          simp only [evSs_cons, evS_if, evE_and, evE_cmp, evE_ix, evE_var, List.getElem?_cons_zero, List.getElem?_cons_succ, List.set_cons_zero, List.set_cons_succ, bind_ok, kIx_eq, kIx2_eq, ix, kCmp_eq, kCmp2_eq, eq, kAnd_eq, truth_bl, gt, tru_bl, out_ok, kIf_eq, Bool.false_eq_true, if_false, seq_next, kSs_eq, evSs_nil]
      · rw [decide_eq_false c1] at eq
        refine ⟨[some (.pt ks), some (.tup (ps.map pairT)), some (rowI row), some (.int b), some (.int k), some (.str p.1), some (.int p.2)], B2, ?_, rfl, _, _, _, rfl, isMx_iff (fun q => ?_) mx⟩
        · simp only [evSs_cons, evS_if, evE_and, evE_cmp, evE_ix, evE_var, List.getElem?_cons_zero, List.getElem?_cons_succ, List.set_cons_zero, List.set_cons_succ, bind_ok, kIx_eq, kIx2_eq, ix, kCmp_eq, kCmp2_eq, eq, kAnd_eq, truth_bl, tru_bl, out_ok, kIf_eq, Bool.false_eq_true, if_false, seq_next, kSs_eq, evSs_nil]
        · rw [take_get hp, List.mem_append, List.mem_singleton]
          constructor
          · rintro (z | ⟨z, z'⟩)
            · exact .inl z
            · exact .inr ⟨.inl z, z'⟩
          · rintro (z | ⟨z | z, z'⟩)
            · exact .inl z
            · exact .inr ⟨z, z'⟩
            · subst z; exact absurd z'.symm c1
    obtain ⟨σ2, B2, i1, rfl, b, o5', o6', rfl, mx2⟩ := inner
    rw [List.length_map, List.take_length] at mx2
    refine ⟨_, _, rfl, [some (.pt ks), some (.tup (ps.map pairT)), some (rowI row), some (.int b), some (.int k), o5', o6'], B2, by simp only [evSs_cons, List.set_cons_zero, List.set_cons_succ, i1, seq_next, kSs_eq, evSs_nil], rfl, _, _, _, _, rfl, isMx_iff (fun q => ?_) mx2⟩
    rw [take_get hk]
    constructor
    · rintro (⟨z, k', hk', e⟩ | ⟨z, e⟩)
      · exact ⟨z, k', List.mem_append_left _ hk', e⟩
      · exact ⟨z, k, List.mem_append_right _ (by simp), e⟩
    · rintro ⟨z, k', hk', e⟩
      rcases List.mem_append.mp hk' with hk' | hk'
      · exact .inl ⟨z, k', hk', e⟩
      · rw [List.mem_singleton.mp hk'] at e
        exact .inr ⟨z, e⟩
  obtain ⟨σ', A', h1, rfl, b, o4, o5, o6, rfl, mx⟩ := loop
  rw [List.length_map, List.take_length] at mx
  have : b = topV ks ps row := isMx_uniq (isMx_iff (fun p => by
    constructor
    · rintro ⟨z, k, hk, e⟩
      have hk2 := hr k hk
      have := (kd_idx nd hk2.1 (by rw [hM]; exact hk2.2) (h p z)).mpr e
      exact ⟨z, this ▸ hk⟩
    · rintro ⟨z, hk⟩
      have hk2 := hr _ hk
      exact ⟨z, _, hk, (kd_idx nd hk2.1 (by rw [hM]; exact hk2.2) (h p z)).mp rfl⟩) mx) (topV_mx ks row ps)
  subst this
  simp [bWTop, h1]
end
end Ev


set_option linter.all false
set_option maxRecDepth 100000
set_option maxHeartbeats 8000000
namespace Ev
open PySem L2 Sh

/-! ### stairs -/
def stairV (ns : List Int) (many : Nat) : Int := sm many fun k => ns.getD (min k (ns.length - 1)) 0
def stT (ns : List Int) : AV := .tup (ns.map .int)
theorem st_at {ns : List Int} (h0 : 0 < ns.length) (k : Nat) (A : AH) : aIx (stT ns) (.int ((min k (ns.length - 1) : Nat) : Int)) A = some (.int (ns.getD (min k (ns.length - 1)) 0)) := by
  have hl : min k (ns.length - 1) < ns.length := by omega
  refine ixT ?_ A
  rw [List.getElem?_map, List.getD_eq_getElem?_getD, List.getElem?_eq_getElem hl]; rfl
theorem min_st (k n : Nat) (h : 0 < n) (A : AH) : aBif .min2 [.int (k : Int), .int ((n : Int) - 1)] A = .ok (.int ((min k (n - 1) : Nat) : Int)) A := by
  show Res.ok (AV.int (if (n : Int) - 1 < (k : Int) then (n : Int) - 1 else (k : Int))) A = _
  congr 2
  split <;> omega
theorem len_st (ns : List Int) (A : AH) : aBif .len [stT ns] A = .ok (.int (ns.length : Int)) A := by
  show Res.ok (AV.int ((ns.map AV.int).length : Nat)) A = _
  rw [List.length_map]
def bStair : List S := [.asg (.name 2) (.lit (.int 0)),
    .for_ (.name 3) (.range1 (.var 1)) [.aug 2 .add (.ix (.var 0) (.bif .min2 [(.var 3), (.bin .sub (.bif .len [(.var 0)]) (.lit (.int 1)))]))],
    .ret (.var 2)]
theorem stair_ev (c : Cfg) (A : AH) {ns : List Int} (h0 : 0 < ns.length) {many : Nat} (hz : many ≤ 10000) : (evSs c bStair [some (stT ns), some (.int many), none, none] A).fin = .ok (.int (stairV ns many)) A := by
  have loop : ∃ σ' A', evS c (.for_ (.name 3) (.range1 (.var 1)) [.aug 2 .add (.ix (.var 0) (.bif .min2 [(.var 3), (.bin .sub (.bif .len [(.var 0)]) (.lit (.int 1)))]))]) [some (stT ns), some (.int many), some (.int 0), none] A = .next σ' A' ∧
      A' = A ∧ ∃ o3, σ' = [some (stT ns), some (.int many), some (.int (stairV ns ((List.range many).map fun (k : Nat) => AV.int (k : Int)).length)), o3] := by
    rw [forN (n := many) (by simp) (by omega)]
    refine for_end (fun i σ A' => A' = A ∧ ∃ o3, σ = [some (stT ns), some (.int many), some (.int (stairV ns i)), o3]) ⟨rfl, none, rfl⟩ (fun _ _ _ _ _ => rfl) (fun i x σ B hx hi => ?_)
    obtain ⟨rfl, o3, rfl⟩ := hi
    obtain ⟨hin, rfl⟩ := range_get hx
    refine ⟨_, _, rfl, [some (stT ns), some (.int many), some (.int (stairV ns (i + 1))), some (.int (i : Int))], B, ?_, rfl, _, rfl⟩
    simp only [evSs_cons, evS_aug, evE_ix, evE_bif, evEs_cons, evE_bin, evE_var, evE_lit, List.getElem?_cons_zero, List.getElem?_cons_succ, List.set_cons_zero, List.set_cons_succ, bind_ok, kCons_eq, evEs_nil, kCons2_eq, len_st, kBin_eq, sub_int, min_st i ns.length h0, kIx_eq, kIx2_eq, st_at h0, kAug_eq, augadd_int, out_ok, kAug2_eq, seq_next, kSs_eq, evSs_nil]
    rfl
  obtain ⟨σ', A', h1, rfl, o3, rfl⟩ := loop
  rw [range_len] at h1
  simp [bStair, h1]
/-! ### links -/
def lkF (ia ib n : Int) (row : List Int) (k : Nat) : Int := if k ≠ 0 ∧ row.getD (k - 1) 0 = ia ∧ row.getD k 0 = ib then n else 0
def lkV (ia ib n : Int) (row : List Int) : Int := sm row.length (lkF ia ib n row)
def bLink : List S := [.asg (.name 4) (.lit (.int 0)),
    .for_ (.name 5) (.range2 (.lit (.int 1)) (.bif .len [(.var 3)])) [.if_ (.and (.cmp .eq (.ix (.var 3) (.bin .sub (.var 5) (.lit (.int 1)))) (.var 0)) (.cmp .eq (.ix (.var 3) (.var 5)) (.var 1))) [.aug 4 .add (.var 2)] []],
    .ret (.var 4)]
theorem row_at {row : List Int} {i : Nat} (h : i < row.length) (A : AH) : aIx (rowI row) (.int (i : Int)) A = some (.int (row.getD i 0)) := by
  refine rowI_at ?_ A
  rw [List.getD_eq_getElem?_getD, List.getElem?_eq_getElem h]; rfl
theorem link_ev (c : Cfg) (A : AH) (ia ib n : Int) {row : List Int} (hz : row.length ≤ 10000) : (evSs c bLink [some (.int ia), some (.int ib), some (.int n), some (rowI row), none, none] A).fin = .ok (.int (lkV ia ib n row)) A := by
  have loop : ∃ σ' A', evS c (.for_ (.name 5) (.range2 (.lit (.int 1)) (.bif .len [(.var 3)])) [.if_ (.and (.cmp .eq (.ix (.var 3) (.bin .sub (.var 5) (.lit (.int 1)))) (.var 0)) (.cmp .eq (.ix (.var 3) (.var 5)) (.var 1))) [.aug 4 .add (.var 2)] []])
      [some (.int ia), some (.int ib), some (.int n), some (rowI row), some (.int 0), none] A = .next σ' A' ∧
      A' = A ∧ ∃ o5, σ' = [some (.int ia), some (.int ib), some (.int n), some (rowI row), some (.int (sm (((List.range ((row.length : Int) - 1).toNat).map fun (k : Nat) => AV.int (1 + k)).length + 1) (lkF ia ib n row))), o5] := by
    rw [forN2 (i := 1) (j := (row.length : Int)) (by simp) (by simp [len_row]) (by omega)]
    refine for_end (fun i σ A' => A' = A ∧ ∃ o5, σ = [some (.int ia), some (.int ib), some (.int n), some (rowI row), some (.int (sm (i + 1) (lkF ia ib n row))), o5]) ⟨rfl, none, by
      have : sm (0 + 1) (lkF ia ib n row) = 0 := by show (0 : Int) + lkF ia ib n row 0 = 0; unfold lkF; simp
      rw [this]⟩ (fun _ _ _ _ _ => rfl) (fun i x σ B hx hi => ?_)
    obtain ⟨rfl, o5, rfl⟩ := hi
    rw [List.getElem?_map] at hx
    obtain ⟨j, hj, rfl⟩ := Option.map_eq_some_iff.mp hx
    obtain ⟨hl, e⟩ := List.getElem?_eq_some_iff.mp hj
    rw [List.getElem_range] at e
    subst e
    rw [List.length_range] at hl
    have ek : (1 : Int) + (i : Int) = ((i + 1 : Nat) : Int) := by omega
    have ek2 : ((i + 1 : Nat) : Int) - 1 = (i : Int) := by omega
    rw [ek]
    have a1 := row_at (row := row) (i := i) (by omega) B
    have a2 := row_at (row := row) (i := i + 1) (by omega) B
    refine ⟨_, _, rfl, [some (.int ia), some (.int ib), some (.int n), some (rowI row), some (.int (sm (i + 1 + 1) (lkF ia ib n row))), some (.int ((i + 1 : Nat) : Int))], B, ?_, rfl, _, rfl⟩
    have es : sm (i + 1 + 1) (lkF ia ib n row) = sm (i + 1) (lkF ia ib n row) + lkF ia ib n row (i + 1) := rfl
    have ef : lkF ia ib n row (i + 1) = if row.getD i 0 = ia ∧ row.getD (i + 1) 0 = ib then n else 0 := by
      unfold lkF
      simp
    rw [es, ef]
    by_cases c1 : row.getD i 0 = ia
    · by_cases c2 : row.getD (i + 1) 0 = ib
      · rw [if_pos ⟨c1, c2⟩]
        simp only [evSs_cons, evS_if, evE_and, evE_cmp, evE_ix, evE_bin, evE_var, evE_lit, List.getElem?_cons_zero, List.getElem?_cons_succ, List.set_cons_zero, List.set_cons_succ, bind_ok, kBin_eq, sub_int, ek2, kIx_eq, kIx2_eq, a1, a2, kCmp_eq, kCmp2_eq, eq_int, c1, c2, decide_true, kAnd_eq, truth_bl, tru_bl, out_ok, kIf_eq, if_true, evS_aug, kAug_eq, augadd_int, kAug2_eq, seq_next, kSs_eq, evSs_nil]
      · rw [if_neg (fun z => c2 z.2), Int.add_zero]
        simp only [evSs_cons, evS_if, evE_and, evE_cmp, evE_ix, evE_bin, evE_var, evE_lit, List.getElem?_cons_zero, List.getElem?_cons_succ, List.set_cons_zero, List.set_cons_succ, bind_ok, kBin_eq, sub_int, ek2, kIx_eq, kIx2_eq, a1, a2, kCmp_eq, kCmp2_eq, eq_int, c1, decide_true, decide_eq_false c2, kAnd_eq, truth_bl, tru_bl, out_ok, kIf_eq, Bool.false_eq_true, if_false, seq_next, kSs_eq, evSs_nil]
    · rw [if_neg (fun z => c1 z.1), Int.add_zero]
      simp only [evSs_cons, evS_if, evE_and, evE_cmp, evE_ix, evE_bin, evE_var, evE_lit, List.getElem?_cons_zero, List.getElem?_cons_succ, List.set_cons_zero, List.set_cons_succ, bind_ok, kBin_eq, sub_int, ek2, kIx_eq, kIx2_eq, a1, kCmp_eq, kCmp2_eq, eq_int, decide_eq_false c1, kAnd_eq, truth_bl, tru_bl, out_ok, kIf_eq, Bool.false_eq_true, if_false, seq_next, kSs_eq, evSs_nil]
  obtain ⟨σ', A', h1, rfl, o5, rfl⟩ := loop
  have ev : sm (((List.range ((row.length : Int) - 1).toNat).map fun (k : Nat) => AV.int (1 + k)).length + 1) (lkF ia ib n row) = lkV ia ib n row := by
    rw [List.length_map, List.length_range]
    unfold lkV
    by_cases h0 : row.length = 0
    · rw [h0]
      show (0 : Int) + lkF ia ib n row 0 = 0
      unfold lkF; simp
    · have : ((row.length : Int) - 1).toNat + 1 = row.length := by omega
      rw [this]
  rw [ev] at h1
  simp [bLink, h1]
def bWLink : List S := [.asg (.name 3) (.lit (.int 0)),
    .asg (.name 4) (.lit (.str "")),
    .for_ (.name 5) (.v (.var 2)) [.if_ (.and (.cmp .eq (.var 4) (.ix (.var 1) (.lit (.int 1)))) (.cmp .eq (.ix (.var 0) (.var 5)) (.ix (.var 1) (.lit (.int 2))))) [.aug 3 .add (.ix (.var 1) (.lit (.int 3)))] [],
      .asg (.name 4) (.ix (.var 0) (.var 5))],
    .ret (.var 3)]
section
variable {ks : List Str} {M : Nat}
theorem kd_in {k : Int} (h0 : 0 ≤ k) (h1 : k < ks.length) : kd ks k ∈ ks := by
  have hn : k.toNat < ks.length := by omega
  unfold kd
  rw [List.getD_eq_getElem?_getD, List.getElem?_eq_getElem hn]; exact List.getElem_mem hn
theorem wlink_ev (nd : ks.Nodup) (hM : ks.length = M) (hs : ∀ z ∈ ks, sOk z) (c : Cfg) (A : AH) {a b : Str} (ha : a ∈ ks) (hb : b ∈ ks) (n : Int) (he : ("" : Str) ∉ ks) {row : List Int} (hr : inB row M) :
    (evSs c bWLink [some (.pt ks), some (.tup [.str "link", .str a, .str b, .int n]), some (rowI row), none, none, none] A).fin = .ok (.int (lkV (ks.idxOf a : Nat) (ks.idxOf b : Nat) n row)) A := by
  have e0 : sOk "" := by unfold sOk; decide +kernel
  have i1 : ∀ B, aIx (.tup [.str "link", .str a, .str b, .int n]) (.int 1) B = some (.str a) := fun B => ixT (i := 1) rfl B
  have i2 : ∀ B, aIx (.tup [.str "link", .str a, .str b, .int n]) (.int 2) B = some (.str b) := fun B => ixT (i := 2) rfl B
  have i3 : ∀ B, aIx (.tup [.str "link", .str a, .str b, .int n]) (.int 3) B = some (.int n) := fun B => ixT (i := 3) rfl B
  generalize AV.tup [.str "link", .str a, .str b, .int n] = w at i1 i2 i3
  have loop : ∃ σ' A', evS c (.for_ (.name 5) (.v (.var 2)) [.if_ (.and (.cmp .eq (.var 4) (.ix (.var 1) (.lit (.int 1)))) (.cmp .eq (.ix (.var 0) (.var 5)) (.ix (.var 1) (.lit (.int 2))))) [.aug 3 .add (.ix (.var 1) (.lit (.int 3)))] [],
      .asg (.name 4) (.ix (.var 0) (.var 5))]) [some (.pt ks), some w, some (rowI row), some (.int 0), some (.str ""), none] A = .next σ' A' ∧
      A' = A ∧ ∃ o4 o5, σ' = [some (.pt ks), some w, some (rowI row), some (.int (sm (row.map AV.int).length (lkF (ks.idxOf a : Nat) (ks.idxOf b : Nat) n row))), o4, o5] := by
    rw [forV (xs := row.map AV.int) rfl]
    obtain ⟨σ', A', h1, h2, o5, h3⟩ := for_end (chk := (Itm.val (row.map AV.int)).chk) (tg := fun x σ A => evTg c (.name 5) x σ A) (body := fun σ A => evSs c [.if_ (.and (.cmp .eq (.var 4) (.ix (.var 1) (.lit (.int 1)))) (.cmp .eq (.ix (.var 0) (.var 5)) (.ix (.var 1) (.lit (.int 2))))) [.aug 3 .add (.ix (.var 1) (.lit (.int 3)))] [],
      .asg (.name 4) (.ix (.var 0) (.var 5))] σ A) (xs := row.map AV.int) (σ := [some (.pt ks), some w, some (rowI row), some (.int 0), some (.str ""), none]) (A := A)
      (fun i σ A' => A' = A ∧ ∃ o5, σ = [some (.pt ks), some w, some (rowI row), some (.int (sm i (lkF (ks.idxOf a : Nat) (ks.idxOf b : Nat) n row))), some (.str (if i = 0 then "" else kd ks (row.getD (i - 1) 0))), o5]) ⟨rfl, none, rfl⟩ (fun _ _ _ _ _ => rfl) (fun i x σ B hx hi => by
        obtain ⟨rfl, o5, rfl⟩ := hi
        obtain ⟨k, hk, rfl⟩ := row_get hx
        have hk2 := hr k (List.mem_of_getElem? hk)
        have hkd := kd_at (ks := ks) hk2.1 (by rw [hM]; exact hk2.2) B
        have hin := kd_in (ks := ks) hk2.1 (by rw [hM]; exact hk2.2)
        have gk : row.getD i 0 = k := by rw [List.getD_eq_getElem?_getD, hk]; rfl
        have il := (List.getElem?_eq_some_iff.mp hk).1
        have q2 := eq_strs (hs _ hin) (hs b hb) B
        -- the one ahead
        have q1 : ∃ t : Bool, aCmp .eq (.str (if i = 0 then "" else kd ks (row.getD (i - 1) 0))) (.str a) B = some t ∧ (t = true ↔ i ≠ 0 ∧ row.getD (i - 1) 0 = (ks.idxOf a : Nat)) := by
          by_cases h0 : i = 0
          · rw [if_pos h0]
            refine ⟨_, eq_strs e0 (hs a ha) B, ?_⟩
            rw [decide_eq_true_eq]
            exact ⟨fun z => absurd (z ▸ ha) he, fun z => absurd h0 z.1⟩
          · rw [if_neg h0]
            have pl : i - 1 < row.length := by omega
            have pm : row.getD (i - 1) 0 ∈ row := by rw [List.getD_eq_getElem?_getD, List.getElem?_eq_getElem pl]; exact List.getElem_mem pl
            have hp2 := hr _ pm
            refine ⟨_, eq_strs (hs _ (kd_in (ks := ks) hp2.1 (by rw [hM]; exact hp2.2))) (hs a ha) B, ?_⟩
            rw [decide_eq_true_eq, ← kd_idx nd hp2.1 (by rw [hM]; exact hp2.2) ha]
            exact ⟨fun z => ⟨h0, z⟩, fun z => z.2⟩
        obtain ⟨t, q1, ht⟩ := q1
        have hb2 := kd_idx nd hk2.1 (by rw [hM]; exact hk2.2) hb
        refine ⟨_, _, rfl, [some (.pt ks), some w, some (rowI row), some (.int (sm (i + 1) (lkF (ks.idxOf a : Nat) (ks.idxOf b : Nat) n row))), some (.str (if i + 1 = 0 then "" else kd ks (row.getD (i + 1 - 1) 0))), some (.int k)], B, ?_, rfl, _, rfl⟩
        rw [if_neg (show ¬ i + 1 = 0 by omega), Nat.add_sub_cancel, gk]
        have es : sm (i + 1) (lkF (ks.idxOf a : Nat) (ks.idxOf b : Nat) n row) = sm i (lkF (ks.idxOf a : Nat) (ks.idxOf b : Nat) n row) + lkF (ks.idxOf a : Nat) (ks.idxOf b : Nat) n row i := rfl
        rw [es]
        generalize (if i = 0 then ("" : Str) else kd ks (row.getD (i - 1) 0)) = bef at q1 ⊢
        cases t with
        | false =>
          have ef : lkF (ks.idxOf a : Nat) (ks.idxOf b : Nat) n row i = 0 := if_neg fun z => by
            have := ht.mpr ⟨z.1, z.2.1⟩; cases this
          rw [ef, Int.add_zero]
          simp only [evSs_cons, evS_if, evE_and, evE_cmp, evE_ix, evE_var, evE_lit, List.getElem?_cons_zero, List.getElem?_cons_succ, List.set_cons_zero, List.set_cons_succ, bind_ok, kIx_eq, kIx2_eq, i1, kCmp_eq, kCmp2_eq, q1, kAnd_eq, truth_bl, tru_bl, out_ok, kIf_eq, Bool.false_eq_true, if_false, evSs_nil, seq_next, kSs_eq, evS_asg, hkd, kAsg_eq, evTg_name]
        | true =>
          obtain ⟨t1, t2⟩ := ht.mp rfl
          by_cases c2 : kd ks k = b
          · have ef : lkF (ks.idxOf a : Nat) (ks.idxOf b : Nat) n row i = n := if_pos ⟨t1, t2, by rw [gk]; exact hb2.mpr c2⟩
            rw [ef]
            rw [decide_eq_true c2] at q2
            simp only [evSs_cons, evS_if, evE_and, evE_cmp, evE_ix, evE_var, evE_lit, List.getElem?_cons_zero, List.getElem?_cons_succ, List.set_cons_zero, List.set_cons_succ, bind_ok, kIx_eq, kIx2_eq, i1, i2, i3, kCmp_eq, kCmp2_eq, q1, kAnd_eq, truth_bl, hkd, q2, tru_bl, out_ok, kIf_eq, if_true, evS_aug, kAug_eq, augadd_int, kAug2_eq, evSs_nil, seq_next, kSs_eq, evS_asg, kAsg_eq, evTg_name]
          · have ef : lkF (ks.idxOf a : Nat) (ks.idxOf b : Nat) n row i = 0 := if_neg fun z => c2 (hb2.mp (gk ▸ z.2.2))
            rw [ef, Int.add_zero]
            rw [decide_eq_false c2] at q2
            simp only [evSs_cons, evS_if, evE_and, evE_cmp, evE_ix, evE_var, evE_lit, List.getElem?_cons_zero, List.getElem?_cons_succ, List.set_cons_zero, List.set_cons_succ, bind_ok, kIx_eq, kIx2_eq, i1, i2, kCmp_eq, kCmp2_eq, q1, kAnd_eq, truth_bl, hkd, q2, tru_bl, out_ok, kIf_eq, Bool.false_eq_true, if_false, evSs_nil, seq_next, kSs_eq, evS_asg, kAsg_eq, evTg_name])
    exact ⟨σ', A', h1, h2, _, o5, h3⟩
  obtain ⟨σ', A', h1, rfl, o4, o5, rfl⟩ := loop
  rw [List.length_map] at h1
  have h1' := h1
  simp [bWLink, h1', lkV]
end
end Ev


set_option Elab.async false
set_option linter.all false
set_option maxRecDepth 100000
set_option maxHeartbeats 8000000
namespace Ev
open PySem L2 Sh

/-! ### the words -/
theorem ok_top : sOk "top" := by unfold sOk; decide +kernel
theorem ok_link : sOk "link" := by unfold sOk; decide +kernel
theorem ok_sum : sOk "sum" := by unfold sOk; decide +kernel
theorem ok_only : sOk "only" := by unfold sOk; decide +kernel
theorem ok_stair : sOk "stair" := by unfold sOk; decide +kernel
theorem ok_fee : sOk "fee" := by unfold sOk; decide +kernel
theorem ok_each : sOk "each" := by unfold sOk; decide +kernel
theorem ok_pack : sOk "pack" := by unfold sOk; decide +kernel
@[simp] theorem w_top_top (A : AH) : aCmp .eq (.str "top") (.str "top") A = some true := (eq_strs ok_top ok_top A).trans (by decide +kernel)
@[simp] theorem w_top_link (A : AH) : aCmp .eq (.str "top") (.str "link") A = some false := (eq_strs ok_top ok_link A).trans (by decide +kernel)
@[simp] theorem w_top_sum (A : AH) : aCmp .eq (.str "top") (.str "sum") A = some false := (eq_strs ok_top ok_sum A).trans (by decide +kernel)
@[simp] theorem w_top_only (A : AH) : aCmp .eq (.str "top") (.str "only") A = some false := (eq_strs ok_top ok_only A).trans (by decide +kernel)
@[simp] theorem w_top_stair (A : AH) : aCmp .eq (.str "top") (.str "stair") A = some false := (eq_strs ok_top ok_stair A).trans (by decide +kernel)
@[simp] theorem w_top_fee (A : AH) : aCmp .eq (.str "top") (.str "fee") A = some false := (eq_strs ok_top ok_fee A).trans (by decide +kernel)
@[simp] theorem w_top_each (A : AH) : aCmp .eq (.str "top") (.str "each") A = some false := (eq_strs ok_top ok_each A).trans (by decide +kernel)
@[simp] theorem w_top_pack (A : AH) : aCmp .eq (.str "top") (.str "pack") A = some false := (eq_strs ok_top ok_pack A).trans (by decide +kernel)
@[simp] theorem w_link_top (A : AH) : aCmp .eq (.str "link") (.str "top") A = some false := (eq_strs ok_link ok_top A).trans (by decide +kernel)
@[simp] theorem w_link_link (A : AH) : aCmp .eq (.str "link") (.str "link") A = some true := (eq_strs ok_link ok_link A).trans (by decide +kernel)
@[simp] theorem w_link_sum (A : AH) : aCmp .eq (.str "link") (.str "sum") A = some false := (eq_strs ok_link ok_sum A).trans (by decide +kernel)
@[simp] theorem w_link_only (A : AH) : aCmp .eq (.str "link") (.str "only") A = some false := (eq_strs ok_link ok_only A).trans (by decide +kernel)
@[simp] theorem w_link_stair (A : AH) : aCmp .eq (.str "link") (.str "stair") A = some false := (eq_strs ok_link ok_stair A).trans (by decide +kernel)
@[simp] theorem w_link_fee (A : AH) : aCmp .eq (.str "link") (.str "fee") A = some false := (eq_strs ok_link ok_fee A).trans (by decide +kernel)
@[simp] theorem w_link_each (A : AH) : aCmp .eq (.str "link") (.str "each") A = some false := (eq_strs ok_link ok_each A).trans (by decide +kernel)
@[simp] theorem w_link_pack (A : AH) : aCmp .eq (.str "link") (.str "pack") A = some false := (eq_strs ok_link ok_pack A).trans (by decide +kernel)
@[simp] theorem w_sum_top (A : AH) : aCmp .eq (.str "sum") (.str "top") A = some false := (eq_strs ok_sum ok_top A).trans (by decide +kernel)
@[simp] theorem w_sum_link (A : AH) : aCmp .eq (.str "sum") (.str "link") A = some false := (eq_strs ok_sum ok_link A).trans (by decide +kernel)
@[simp] theorem w_sum_sum (A : AH) : aCmp .eq (.str "sum") (.str "sum") A = some true := (eq_strs ok_sum ok_sum A).trans (by decide +kernel)
@[simp] theorem w_sum_only (A : AH) : aCmp .eq (.str "sum") (.str "only") A = some false := (eq_strs ok_sum ok_only A).trans (by decide +kernel)
@[simp] theorem w_sum_stair (A : AH) : aCmp .eq (.str "sum") (.str "stair") A = some false := (eq_strs ok_sum ok_stair A).trans (by decide +kernel)
@[simp] theorem w_sum_fee (A : AH) : aCmp .eq (.str "sum") (.str "fee") A = some false := (eq_strs ok_sum ok_fee A).trans (by decide +kernel)
@[simp] theorem w_sum_each (A : AH) : aCmp .eq (.str "sum") (.str "each") A = some false := (eq_strs ok_sum ok_each A).trans (by decide +kernel)
@[simp] theorem w_sum_pack (A : AH) : aCmp .eq (.str "sum") (.str "pack") A = some false := (eq_strs ok_sum ok_pack A).trans (by decide +kernel)
@[simp] theorem w_only_top (A : AH) : aCmp .eq (.str "only") (.str "top") A = some false := (eq_strs ok_only ok_top A).trans (by decide +kernel)
@[simp] theorem w_only_link (A : AH) : aCmp .eq (.str "only") (.str "link") A = some false := (eq_strs ok_only ok_link A).trans (by decide +kernel)
@[simp] theorem w_only_sum (A : AH) : aCmp .eq (.str "only") (.str "sum") A = some false := (eq_strs ok_only ok_sum A).trans (by decide +kernel)
@[simp] theorem w_only_only (A : AH) : aCmp .eq (.str "only") (.str "only") A = some true := (eq_strs ok_only ok_only A).trans (by decide +kernel)
@[simp] theorem w_only_stair (A : AH) : aCmp .eq (.str "only") (.str "stair") A = some false := (eq_strs ok_only ok_stair A).trans (by decide +kernel)
@[simp] theorem w_only_fee (A : AH) : aCmp .eq (.str "only") (.str "fee") A = some false := (eq_strs ok_only ok_fee A).trans (by decide +kernel)
@[simp] theorem w_only_each (A : AH) : aCmp .eq (.str "only") (.str "each") A = some false := (eq_strs ok_only ok_each A).trans (by decide +kernel)
@[simp] theorem w_only_pack (A : AH) : aCmp .eq (.str "only") (.str "pack") A = some false := (eq_strs ok_only ok_pack A).trans (by decide +kernel)
@[simp] theorem w_stair_top (A : AH) : aCmp .eq (.str "stair") (.str "top") A = some false := (eq_strs ok_stair ok_top A).trans (by decide +kernel)
@[simp] theorem w_stair_link (A : AH) : aCmp .eq (.str "stair") (.str "link") A = some false := (eq_strs ok_stair ok_link A).trans (by decide +kernel)
@[simp] theorem w_stair_sum (A : AH) : aCmp .eq (.str "stair") (.str "sum") A = some false := (eq_strs ok_stair ok_sum A).trans (by decide +kernel)
@[simp] theorem w_stair_only (A : AH) : aCmp .eq (.str "stair") (.str "only") A = some false := (eq_strs ok_stair ok_only A).trans (by decide +kernel)
@[simp] theorem w_stair_stair (A : AH) : aCmp .eq (.str "stair") (.str "stair") A = some true := (eq_strs ok_stair ok_stair A).trans (by decide +kernel)
@[simp] theorem w_stair_fee (A : AH) : aCmp .eq (.str "stair") (.str "fee") A = some false := (eq_strs ok_stair ok_fee A).trans (by decide +kernel)
@[simp] theorem w_stair_each (A : AH) : aCmp .eq (.str "stair") (.str "each") A = some false := (eq_strs ok_stair ok_each A).trans (by decide +kernel)
@[simp] theorem w_stair_pack (A : AH) : aCmp .eq (.str "stair") (.str "pack") A = some false := (eq_strs ok_stair ok_pack A).trans (by decide +kernel)
@[simp] theorem w_fee_top (A : AH) : aCmp .eq (.str "fee") (.str "top") A = some false := (eq_strs ok_fee ok_top A).trans (by decide +kernel)
@[simp] theorem w_fee_link (A : AH) : aCmp .eq (.str "fee") (.str "link") A = some false := (eq_strs ok_fee ok_link A).trans (by decide +kernel)
@[simp] theorem w_fee_sum (A : AH) : aCmp .eq (.str "fee") (.str "sum") A = some false := (eq_strs ok_fee ok_sum A).trans (by decide +kernel)
@[simp] theorem w_fee_only (A : AH) : aCmp .eq (.str "fee") (.str "only") A = some false := (eq_strs ok_fee ok_only A).trans (by decide +kernel)
@[simp] theorem w_fee_stair (A : AH) : aCmp .eq (.str "fee") (.str "stair") A = some false := (eq_strs ok_fee ok_stair A).trans (by decide +kernel)
@[simp] theorem w_fee_fee (A : AH) : aCmp .eq (.str "fee") (.str "fee") A = some true := (eq_strs ok_fee ok_fee A).trans (by decide +kernel)
@[simp] theorem w_fee_each (A : AH) : aCmp .eq (.str "fee") (.str "each") A = some false := (eq_strs ok_fee ok_each A).trans (by decide +kernel)
@[simp] theorem w_fee_pack (A : AH) : aCmp .eq (.str "fee") (.str "pack") A = some false := (eq_strs ok_fee ok_pack A).trans (by decide +kernel)
@[simp] theorem w_each_top (A : AH) : aCmp .eq (.str "each") (.str "top") A = some false := (eq_strs ok_each ok_top A).trans (by decide +kernel)
@[simp] theorem w_each_link (A : AH) : aCmp .eq (.str "each") (.str "link") A = some false := (eq_strs ok_each ok_link A).trans (by decide +kernel)
@[simp] theorem w_each_sum (A : AH) : aCmp .eq (.str "each") (.str "sum") A = some false := (eq_strs ok_each ok_sum A).trans (by decide +kernel)
@[simp] theorem w_each_only (A : AH) : aCmp .eq (.str "each") (.str "only") A = some false := (eq_strs ok_each ok_only A).trans (by decide +kernel)
@[simp] theorem w_each_stair (A : AH) : aCmp .eq (.str "each") (.str "stair") A = some false := (eq_strs ok_each ok_stair A).trans (by decide +kernel)
@[simp] theorem w_each_fee (A : AH) : aCmp .eq (.str "each") (.str "fee") A = some false := (eq_strs ok_each ok_fee A).trans (by decide +kernel)
@[simp] theorem w_each_each (A : AH) : aCmp .eq (.str "each") (.str "each") A = some true := (eq_strs ok_each ok_each A).trans (by decide +kernel)
@[simp] theorem w_each_pack (A : AH) : aCmp .eq (.str "each") (.str "pack") A = some false := (eq_strs ok_each ok_pack A).trans (by decide +kernel)
@[simp] theorem w_pack_top (A : AH) : aCmp .eq (.str "pack") (.str "top") A = some false := (eq_strs ok_pack ok_top A).trans (by decide +kernel)
@[simp] theorem w_pack_link (A : AH) : aCmp .eq (.str "pack") (.str "link") A = some false := (eq_strs ok_pack ok_link A).trans (by decide +kernel)
@[simp] theorem w_pack_sum (A : AH) : aCmp .eq (.str "pack") (.str "sum") A = some false := (eq_strs ok_pack ok_sum A).trans (by decide +kernel)
@[simp] theorem w_pack_only (A : AH) : aCmp .eq (.str "pack") (.str "only") A = some false := (eq_strs ok_pack ok_only A).trans (by decide +kernel)
@[simp] theorem w_pack_stair (A : AH) : aCmp .eq (.str "pack") (.str "stair") A = some false := (eq_strs ok_pack ok_stair A).trans (by decide +kernel)
@[simp] theorem w_pack_fee (A : AH) : aCmp .eq (.str "pack") (.str "fee") A = some false := (eq_strs ok_pack ok_fee A).trans (by decide +kernel)
@[simp] theorem w_pack_each (A : AH) : aCmp .eq (.str "pack") (.str "each") A = some false := (eq_strs ok_pack ok_each A).trans (by decide +kernel)
@[simp] theorem w_pack_pack (A : AH) : aCmp .eq (.str "pack") (.str "pack") A = some true := (eq_strs ok_pack ok_pack A).trans (by decide +kernel)
/-! ### counts -/
def bCount : List S := [.asg (.name 2) (.lit (.int 0)),
    .asg (.name 3) (.lit (.int 0)),
    .for_ (.name 4) (.range1 (.var 1)) [.if_ (.or (.cmp .eq (.ix (.var 0) (.lit (.int 0))) (.lit (.str "each"))) (.and (.cmp .eq (.ix (.var 0) (.lit (.int 0))) (.lit (.str "fee"))) (.cmp .eq (.var 4) (.lit (.int 0))))) [.aug 2 .add (.ix (.var 0) (.lit (.int 1)))] [.if_ (.cmp .eq (.ix (.var 0) (.lit (.int 0))) (.lit (.str "pack"))) [.if_ (.cmp .eq (.var 3) (.lit (.int 0))) [.aug 2 .add (.ix (.var 0) (.lit (.int 3))),
            .asg (.name 3) (.ix (.var 0) (.lit (.int 1)))] [],
          .aug 3 .sub (.lit (.int 1))] [.if_ (.cmp .eq (.ix (.var 0) (.lit (.int 0))) (.lit (.str "stair"))) [.aug 2 .add (.ix (.ix (.var 0) (.lit (.int 2))) (.bif .min2 [(.var 4), (.bin .sub (.bif .len [(.ix (.var 0) (.lit (.int 2)))]) (.lit (.int 1)))]))] []]]],
    .ret (.var 2)]
/-- one walk for all four -/
theorem count_ev (c : Cfg) (A : AH) (w : AV) {many : Nat} (hz : many ≤ 10000) (f g : Nat → Int) (h0 : f 0 = 0) (h1 : g 0 = 0)
    (step : ∀ (i : Nat) (o : Option AV), i < many → evSs c [.if_ (.or (.cmp .eq (.ix (.var 0) (.lit (.int 0))) (.lit (.str "each"))) (.and (.cmp .eq (.ix (.var 0) (.lit (.int 0))) (.lit (.str "fee"))) (.cmp .eq (.var 4) (.lit (.int 0))))) [.aug 2 .add (.ix (.var 0) (.lit (.int 1)))] [.if_ (.cmp .eq (.ix (.var 0) (.lit (.int 0))) (.lit (.str "pack"))) [.if_ (.cmp .eq (.var 3) (.lit (.int 0))) [.aug 2 .add (.ix (.var 0) (.lit (.int 3))),
            .asg (.name 3) (.ix (.var 0) (.lit (.int 1)))] [],
          .aug 3 .sub (.lit (.int 1))] [.if_ (.cmp .eq (.ix (.var 0) (.lit (.int 0))) (.lit (.str "stair"))) [.aug 2 .add (.ix (.ix (.var 0) (.lit (.int 2))) (.bif .min2 [(.var 4), (.bin .sub (.bif .len [(.ix (.var 0) (.lit (.int 2)))]) (.lit (.int 1)))]))] []]]]
      [some w, some (.int many), some (.int (f i)), some (.int (g i)), some (.int (i : Int))] A = .next [some w, some (.int many), some (.int (f (i + 1))), some (.int (g (i + 1))), some (.int (i : Int))] A) :
    (evSs c bCount [some w, some (.int many), none, none, none] A).fin = .ok (.int (f many)) A := by
  have loop : ∃ σ' A', evS c (bCount.getD 2 .pass) [some w, some (.int many), some (.int 0), some (.int 0), none] A = .next σ' A' ∧
      A' = A ∧ ∃ o4, σ' = [some w, some (.int many), some (.int (f ((List.range many).map fun (k : Nat) => AV.int (k : Int)).length)), some (.int (g ((List.range many).map fun (k : Nat) => AV.int (k : Int)).length)), o4] := by
    show ∃ σ' A', evS c (.for_ (.name 4) (.range1 (.var 1)) _) _ A = .next σ' A' ∧ _
    rw [forN (n := many) (by simp) (by omega)]
    refine for_end (fun i σ A' => A' = A ∧ ∃ o4, σ = [some w, some (.int many), some (.int (f i)), some (.int (g i)), o4]) ⟨rfl, none, by rw [h0, h1]⟩ (fun _ _ _ _ _ => rfl) (fun i x σ B hx hi => ?_)
    obtain ⟨rfl, o4, rfl⟩ := hi
    obtain ⟨hin, rfl⟩ := range_get hx
    exact ⟨_, _, rfl, _, _, step i o4 hin, rfl, _, rfl⟩
  obtain ⟨σ', A', h2, rfl, o4, rfl⟩ := loop
  rw [range_len] at h2
  have h2 : evS c (.for_ (.name 4) (.range1 (.var 1)) [.if_ (.or (.cmp .eq (.ix (.var 0) (.lit (.int 0))) (.lit (.str "each"))) (.and (.cmp .eq (.ix (.var 0) (.lit (.int 0))) (.lit (.str "fee"))) (.cmp .eq (.var 4) (.lit (.int 0))))) [.aug 2 .add (.ix (.var 0) (.lit (.int 1)))] [.if_ (.cmp .eq (.ix (.var 0) (.lit (.int 0))) (.lit (.str "pack"))) [.if_ (.cmp .eq (.var 3) (.lit (.int 0))) [.aug 2 .add (.ix (.var 0) (.lit (.int 3))),
            .asg (.name 3) (.ix (.var 0) (.lit (.int 1)))] [],
          .aug 3 .sub (.lit (.int 1))] [.if_ (.cmp .eq (.ix (.var 0) (.lit (.int 0))) (.lit (.str "stair"))) [.aug 2 .add (.ix (.ix (.var 0) (.lit (.int 2))) (.bif .min2 [(.var 4), (.bin .sub (.bif .len [(.ix (.var 0) (.lit (.int 2)))]) (.lit (.int 1)))]))] []]]]) [some w, some (.int many), some (.int 0), some (.int 0), none] A' = .next [some w, some (.int many), some (.int (f many)), some (.int (g many)), o4] A' := h2
  simp [bCount, h2]
theorem cnt_fee (c : Cfg) (A : AH) (n : Int) (w : AV) {many : Nat} (hz : many ≤ 10000) : (evSs c bCount [some (.tup [.str "fee", .int n, w]), some (.int many), none, none, none] A).fin = .ok (.int (if many = 0 then 0 else n)) A := by
  have i0 : aIx (.tup [.str "fee", .int n, w]) (.int 0) A = some (.str "fee") := ixT (i := 0) rfl A
  have i1 : aIx (.tup [.str "fee", .int n, w]) (.int 1) A = some (.int n) := ixT (i := 1) rfl A
  refine count_ev c A _ hz (fun k => if k = 0 then 0 else n) (fun _ => 0) rfl rfl fun i o hi => ?_
  generalize AV.tup [.str "fee", .int n, w] = u at i0 i1
  by_cases h : i = 0
  · subst h; simp [i0, i1]
  · have h' : ¬ (i : Int) = 0 := by omega
    simp [i0, h, h']
theorem cnt_each (c : Cfg) (A : AH) (n : Int) (w : AV) {many : Nat} (hz : many ≤ 10000) : (evSs c bCount [some (.tup [.str "each", .int n, w]), some (.int many), none, none, none] A).fin = .ok (.int (n * many)) A := by
  have i0 : aIx (.tup [.str "each", .int n, w]) (.int 0) A = some (.str "each") := ixT (i := 0) rfl A
  have i1 : aIx (.tup [.str "each", .int n, w]) (.int 1) A = some (.int n) := ixT (i := 1) rfl A
  refine count_ev c A _ hz (fun k => n * (k : Int)) (fun _ => 0) (by simp) rfl fun i o hi => ?_
  generalize AV.tup [.str "each", .int n, w] = u at i0 i1
  have e : n * ((i + 1 : Nat) : Int) = n * (i : Int) + n := by rw [Int.natCast_add, Int.mul_add]; simp
  simp only [e]
  simp [i0, i1]
theorem cnt_stair (c : Cfg) (A : AH) {ns : List Int} (h0 : 0 < ns.length) (w : AV) {many : Nat} (hz : many ≤ 10000) : (evSs c bCount [some (.tup [.str "stair", w, stT ns]), some (.int many), none, none, none] A).fin = .ok (.int (stairV ns many)) A := by
  have i0 : aIx (.tup [.str "stair", w, stT ns]) (.int 0) A = some (.str "stair") := ixT (i := 0) rfl A
  have i2 : aIx (.tup [.str "stair", w, stT ns]) (.int 2) A = some (stT ns) := ixT (i := 2) rfl A
  refine count_ev c A _ hz (stairV ns) (fun _ => 0) rfl rfl fun i o hi => ?_
  generalize AV.tup [.str "stair", w, stT ns] = u at i0 i2
  have e : stairV ns (i + 1) = stairV ns i + ns.getD (min i (ns.length - 1)) 0 := rfl
  have m1 := min_st i ns.length h0 A
  have s1 := st_at h0 i A
  have l1 := len_st ns A
  generalize stT ns = v at i2 s1 l1
  rw [e]
  simp only [evSs_cons, evS_if, evE_or, evE_and, evE_cmp, evE_ix, evE_bif, evEs_cons, evE_bin, evE_var, evE_lit, List.getElem?_cons_zero, List.getElem?_cons_succ, List.set_cons_zero, List.set_cons_succ, bind_ok, kIx_eq, kIx2_eq, i0, kCmp_eq, kCmp2_eq, w_stair_each, w_stair_fee, w_stair_pack, w_stair_stair, kOr_eq, kAnd_eq, truth_bl, tru_bl, out_ok, kIf_eq, Bool.false_eq_true, if_false, if_true, evS_aug, i2, kCons_eq, evEs_nil, kCons2_eq, l1, kBin_eq, sub_int, m1, s1, kAug_eq, augadd_int, kAug2_eq, seq_next, kSs_eq, evSs_nil]
def cdiv (k s : Nat) : Nat := (k + s - 1) / s
theorem cdiv_le {k s : Nat} (hs : 0 < s) : k ≤ s * cdiv k s ∧ s * cdiv k s < k + s := by
  unfold cdiv
  have h1 := Nat.div_add_mod (k + s - 1) s
  have h2 := Nat.mod_lt (k + s - 1) hs
  omega
theorem cdiv_uniq {k s q : Nat} (hs : 0 < s) (h1 : k ≤ s * q) (h2 : s * q < k + s) : q = cdiv k s := by
  obtain ⟨a, b⟩ := cdiv_le (k := k) hs
  have c1 : s * q < s * (cdiv k s + 1) := by rw [Nat.mul_add]; omega
  have c2 : s * cdiv k s < s * (q + 1) := by rw [Nat.mul_add]; omega
  have := Nat.lt_of_mul_lt_mul_left c1
  have := Nat.lt_of_mul_lt_mul_left c2
  omega
theorem cnt_pack (c : Cfg) (A : AH) {s : Nat} (hs : 0 < s) (n : Int) (w : AV) {many : Nat} (hz : many ≤ 10000) : (evSs c bCount [some (.tup [.str "pack", .int s, w, .int n]), some (.int many), none, none, none] A).fin = .ok (.int (n * (cdiv many s : Nat))) A := by
  have i0 : aIx (.tup [.str "pack", .int s, w, .int n]) (.int 0) A = some (.str "pack") := ixT (i := 0) rfl A
  have i1 : aIx (.tup [.str "pack", .int s, w, .int n]) (.int 1) A = some (.int s) := ixT (i := 1) rfl A
  have i3 : aIx (.tup [.str "pack", .int s, w, .int n]) (.int 3) A = some (.int n) := ixT (i := 3) rfl A
  have z0 : cdiv 0 s = 0 := (cdiv_uniq (q := 0) hs (by omega) (by omega)).symm
  refine count_ev c A _ hz (fun k => n * (cdiv k s : Nat)) (fun k => ((s * cdiv k s : Nat) : Int) - k) (by rw [z0]; simp) (by rw [z0]; simp) fun i o hi => ?_
  generalize AV.tup [.str "pack", .int s, w, .int n] = u at i0 i1 i3
  obtain ⟨b1, b2⟩ := cdiv_le (k := i) hs
  by_cases h : s * cdiv i s = i
  · have e : cdiv (i + 1) s = cdiv i s + 1 := (cdiv_uniq (q := cdiv i s + 1) hs (by rw [Nat.mul_add]; omega) (by rw [Nat.mul_add]; omega)).symm
    have h' : ((s * cdiv i s : Nat) : Int) - (i : Int) = 0 := by omega
    have e1 : n * ((cdiv (i + 1) s : Nat) : Int) = n * ((cdiv i s : Nat) : Int) + n := by rw [e, Int.natCast_add, Int.mul_add]; simp
    have e2 : ((s * cdiv (i + 1) s : Nat) : Int) - ((i + 1 : Nat) : Int) = (s : Int) - 1 := by rw [e, Nat.mul_add]; omega
    simp only [h', e1, e2]
    simp [i0, i1, i3]
  · have e : cdiv (i + 1) s = cdiv i s := (cdiv_uniq (q := cdiv i s) hs (by omega) (by omega)).symm
    have h' : ¬ ((s * cdiv i s : Nat) : Int) - (i : Int) = 0 := by omega
    have e2 : ((s * cdiv i s : Nat) : Int) - ((i + 1 : Nat) : Int) = ((s * cdiv i s : Nat) : Int) - (i : Int) - 1 := by omega
    simp only [e, e2]
    generalize ((s * cdiv i s : Nat) : Int) - (i : Int) = v at h'
    simp [i0, h']
end Ev


set_option Elab.async false
set_option linter.all false
set_option maxRecDepth 100000
set_option maxHeartbeats 8000000
namespace Ev
open PySem L2 Sh

def bAtom : List S := [.asg (.name 3) (.ix (.var 1) (.lit (.int 0))),
    .if_ (.cmp .eq (.var 3) (.lit (.str "top"))) [.ret (.call "top_meaning" [(.var 0), (.ix (.var 1) (.lit (.int 1))), (.var 2)] [])] [],
    .if_ (.cmp .eq (.var 3) (.lit (.str "link"))) [.ret (.call "link_meaning" [(.mth .index1 (.var 0) [(.ix (.var 1) (.lit (.int 1)))]), (.mth .index1 (.var 0) [(.ix (.var 1) (.lit (.int 2)))]), (.ix (.var 1) (.lit (.int 3))), (.var 2)] [])] [],
    .if_ (.cmp .eq (.var 3) (.lit (.str "sum"))) [.ret (.call "meaning_of" [(.var 0), (.ix (.var 1) (.lit (.int 1))), (.var 2)] [])] [],
    .if_ (.cmp .eq (.var 3) (.lit (.str "only"))) [.ret (.call "meaning_of" [(.var 0), (.ix (.var 1) (.lit (.int 2))), (.call "such_members" [(.var 0), (.ix (.var 1) (.lit (.int 1))), (.var 2)] [])] [])] [],
    .if_ (.cmp .eq (.var 3) (.lit (.str "stair"))) [.ret (.call "stair_meaning" [(.ix (.var 1) (.lit (.int 2))), (.bif .len [(.call "such_members" [(.var 0), (.ix (.var 1) (.lit (.int 1))), (.var 2)] [])])] [])] [],
    .asg (.name 4) (.bif .len [(.call "such_members" [(.var 0), (.ix (.var 1) (.lit (.int 2))), (.var 2)] [])]),
    .if_ (.cmp .eq (.var 3) (.lit (.str "fee"))) [.ret (.bin .mul (.ix (.var 1) (.lit (.int 1))) (.bif .min2 [(.var 4), (.lit (.int 1))]))] [],
    .if_ (.cmp .eq (.var 3) (.lit (.str "each"))) [.ret (.bin .mul (.ix (.var 1) (.lit (.int 1))) (.var 4))] [],
    .ret (.bin .mul (.ix (.var 1) (.lit (.int 3))) (.bin .fdiv (.bin .sub (.bin .add (.var 4) (.ix (.var 1) (.lit (.int 1)))) (.lit (.int 1))) (.ix (.var 1) (.lit (.int 1)))))]
def bWAtom : List S := [.asg (.name 3) (.ix (.var 1) (.lit (.int 0))),
    .if_ (.cmp .eq (.var 3) (.lit (.str "only"))) [.ret (.call "_law_walked" [(.var 0), (.ix (.var 1) (.lit (.int 2))), (.call "_law_members" [(.var 0), (.ix (.var 1) (.lit (.int 1))), (.var 2)] [])] [])] [],
    .if_ (.cmp .eq (.var 3) (.lit (.str "sum"))) [.ret (.call "_law_walked" [(.var 0), (.ix (.var 1) (.lit (.int 1))), (.var 2)] [])] [],
    .if_ (.cmp .eq (.var 3) (.lit (.str "top"))) [.ret (.call "_law_walked_top" [(.var 0), (.ix (.var 1) (.lit (.int 1))), (.var 2)] [])] [],
    .if_ (.cmp .eq (.var 3) (.lit (.str "link"))) [.ret (.call "_law_walked_link" [(.var 0), (.var 1), (.var 2)] [])] [],
    .asg (.name 4) (.ite (.cmp .eq (.var 3) (.lit (.str "stair"))) (.ix (.var 1) (.lit (.int 1))) (.ix (.var 1) (.lit (.int 2)))),
    .ret (.call "_law_walked_count" [(.var 1), (.bif .len [(.call "_law_members" [(.var 0), (.var 4), (.var 2)] [])])] [])]
abbrev Val := List Int → Int
inductive Pl where
  | fee (n : Int) (names : List Str) | each (n : Int) (names : List Str) | top (ps : List (Str × Int)) | pack (s : Nat) (names : List Str) (n : Int) | stair (names : List Str) (ns : List Int) | link (a b : Str) (n : Int)
def Pl.av : Pl → AV
  | .fee n names => .tup [.str "fee", .int n, .pt names]
  | .each n names => .tup [.str "each", .int n, .pt names]
  | .top ps => .tup [.str "top", .tup (ps.map pairT)]
  | .pack s names n => .tup [.str "pack", .int s, .pt names, .int n]
  | .stair names ns => .tup [.str "stair", .pt names, stT ns]
  | .link a b n => .tup [.str "link", .str a, .str b, .int n]
def Pl.ok (ks : List Str) : Pl → Prop
  | .fee _ names => NmOk ks names
  | .each _ names => NmOk ks names
  | .top ps => ∀ p ∈ ps, p.1 ∈ ks
  | .pack s names _ => NmOk ks names ∧ 0 < s ∧ s ≤ 10000
  | .stair names ns => NmOk ks names ∧ 0 < ns.length
  | .link a b _ => a ∈ ks ∧ b ∈ ks
def Pl.val (ks : List Str) : Pl → Val
  | .fee n names => fun row => if (memb ks names row).length = 0 then 0 else n
  | .each n names => fun row => n * ((memb ks names row).length : Int)
  | .top ps => topV ks ps
  | .pack s names n => fun row => n * (cdiv (memb ks names row).length s : Nat)
  | .stair names ns => fun row => stairV ns (memb ks names row).length
  | .link a b n => lkV (ks.idxOf a : Nat) (ks.idxOf b : Nat) n
section
variable (ks : List Str) (M : Nat)
/-- what the plain ones lean on -/
structure PIs (c : Cfg) : Prop where
  such : ∀ A names row, NmOk ks names → inB row M → row.length ≤ 10000 → ∃ A', c.fn "such_members" [.pt ks, .pt names, rowI row] A = .ok (rowI (memb ks names row)) A' ∧ Ex A A'
  memb : ∀ A names row, NmOk ks names → inB row M → row.length ≤ 10000 → c.fn "_law_members" [.pt ks, .pt names, rowI row] A = .ok (rowI (memb ks names row)) A
  top : ∀ A ps row, (∀ p ∈ ps, p.1 ∈ ks) → c.fn "top_meaning" [.pt ks, .tup (ps.map pairT), rowI row] A = .ok (.int (topV ks ps row)) A
  wtop : ∀ A ps row, (∀ p ∈ ps, p.1 ∈ ks) → inB row M → c.fn "_law_walked_top" [.pt ks, .tup (ps.map pairT), rowI row] A = .ok (.int (topV ks ps row)) A
  stair : ∀ A (ns : List Int) (many : Nat), 0 < ns.length → many ≤ 10000 → c.fn "stair_meaning" [stT ns, .int many] A = .ok (.int (stairV ns many)) A
  link : ∀ A (ia ib n : Int) (row : List Int), row.length ≤ 10000 → c.fn "link_meaning" [.int ia, .int ib, .int n, rowI row] A = .ok (.int (lkV ia ib n row)) A
  wlink : ∀ A (a b : Str) (n : Int) (row : List Int), a ∈ ks → b ∈ ks → inB row M → c.fn "_law_walked_link" [.pt ks, .tup [.str "link", .str a, .str b, .int n], rowI row] A = .ok (.int (lkV (ks.idxOf a : Nat) (ks.idxOf b : Nat) n row)) A
  cfee : ∀ A (n : Int) (w : AV) (many : Nat), many ≤ 10000 → c.fn "_law_walked_count" [.tup [.str "fee", .int n, w], .int many] A = .ok (.int (if many = 0 then 0 else n)) A
  ceach : ∀ A (n : Int) (w : AV) (many : Nat), many ≤ 10000 → c.fn "_law_walked_count" [.tup [.str "each", .int n, w], .int many] A = .ok (.int (n * many)) A
  cpack : ∀ A (s : Nat) (n : Int) (w : AV) (many : Nat), 0 < s → many ≤ 10000 → c.fn "_law_walked_count" [.tup [.str "pack", .int s, w, .int n], .int many] A = .ok (.int (n * (cdiv many s : Nat))) A
  cstair : ∀ A (ns : List Int) (w : AV) (many : Nat), 0 < ns.length → many ≤ 10000 → c.fn "_law_walked_count" [.tup [.str "stair", w, stT ns], .int many] A = .ok (.int (stairV ns many)) A
def atomIs (c : Cfg) (a : AV) (v : Val) : Prop := ∀ A row, inB row M → row.length ≤ 10000 → ∃ A', c.fn "atom_meaning" [.pt ks, a, rowI row] A = .ok (.int (v row)) A' ∧ Ex A A'
def walkIs (c : Cfg) (a : AV) (v : Val) : Prop := ∀ A row, inB row M → row.length ≤ 10000 → ∃ A', c.fn "_law_walked_atom" [.pt ks, a, rowI row] A = .ok (.int (v row)) A' ∧ Ex A A'
end
section
variable {ks : List Str} {M : Nat}
theorem log_s {s : Nat} (h : s ≤ 10000) : ((s : Int)).natAbs.log2 < 9000 := by
  rw [Int.natAbs_natCast]
  by_cases h0 : s = 0
  · subst h0; decide
  · rw [Nat.log2_lt h0]
    have : 2 ^ 14 ≤ 2 ^ 9000 := Nat.pow_le_pow_right (by decide) (by decide)
    omega
theorem min_1 (n : Nat) (A : AH) : aBif .min2 [.int (n : Int), .int 1] A = .ok (.int (if n = 0 then 0 else 1)) A := by
  show Res.ok (AV.int (if (1 : Int) < (n : Int) then (1 : Int) else (n : Int))) A = _
  congr 2
  split <;> split <;> omega
theorem plain_ev (c : Cfg) (P : PIs ks M c) (p : Pl) (h : p.ok ks) (A : AH) {row : List Int} (hr : inB row M) (hz : row.length ≤ 10000) :
    ∃ A', (evSs c bAtom [some (.pt ks), some p.av, some (rowI row), none, none] A).fin = .ok (.int (p.val ks row)) A' ∧ Ex A A' := by
  cases p with
  | fee n names =>
    obtain ⟨A', e, x⟩ := P.such A names row h hr hz
    have lz := memb_len ks names row
    have i0 : ∀ B, aIx (.tup [.str "fee", .int n, .pt names]) (.int 0) B = some (.str "fee") := fun B => ixT (i := 0) rfl B
    have i1 : ∀ B, aIx (.tup [.str "fee", .int n, .pt names]) (.int 1) B = some (.int n) := fun B => ixT (i := 1) rfl B
    have i2 : ∀ B, aIx (.tup [.str "fee", .int n, .pt names]) (.int 2) B = some (.pt names) := fun B => ixT (i := 2) rfl B
    refine ⟨A', ?_, x⟩
    have mu : aBin .mul (.int n) (.int (if (memb ks names row).length = 0 then 0 else 1)) A' = .ok (.int (if (memb ks names row).length = 0 then 0 else n)) A' := by
      rw [mul_r A' (by split <;> omega)]
      congr 2
      split <;> simp
    show (evSs c bAtom [some (.pt ks), some (.tup [.str "fee", .int n, .pt names]), some (rowI row), none, none] A).fin = .ok (.int (if (memb ks names row).length = 0 then 0 else n)) A'
    generalize AV.tup [.str "fee", .int n, .pt names] = u at i0 i1 i2
    have l1 := len_row (memb ks names row) A'
    have m1 := min_1 (memb ks names row).length A'
    generalize rowI (memb ks names row) = w at e l1
    generalize ((memb ks names row).length : Int) = q at l1 m1
    generalize (if (memb ks names row).length = 0 then (0 : Int) else 1) = q1 at m1 mu
    simp [bAtom, i0, i1, i2, e, l1, m1, mu]
  | each n names =>
    obtain ⟨A', e, x⟩ := P.such A names row h hr hz
    have lz := memb_len ks names row
    have i0 : ∀ B, aIx (.tup [.str "each", .int n, .pt names]) (.int 0) B = some (.str "each") := fun B => ixT (i := 0) rfl B
    have i1 : ∀ B, aIx (.tup [.str "each", .int n, .pt names]) (.int 1) B = some (.int n) := fun B => ixT (i := 1) rfl B
    have i2 : ∀ B, aIx (.tup [.str "each", .int n, .pt names]) (.int 2) B = some (.pt names) := fun B => ixT (i := 2) rfl B
    refine ⟨A', ?_, x⟩
    have mu : aBin .mul (.int n) (.int ((memb ks names row).length : Int)) A' = .ok (.int (n * ((memb ks names row).length : Int))) A' := mul_r A' (by omega)
    show (evSs c bAtom [some (.pt ks), some (.tup [.str "each", .int n, .pt names]), some (rowI row), none, none] A).fin = .ok (.int (n * ((memb ks names row).length : Int))) A'
    generalize AV.tup [.str "each", .int n, .pt names] = u at i0 i1 i2
    have l1 := len_row (memb ks names row) A'
    generalize rowI (memb ks names row) = w at e l1
    generalize ((memb ks names row).length : Int) = q at l1 mu ⊢
    simp [bAtom, i0, i1, i2, e, l1, mu]
  | top ps =>
    have i0 : ∀ B, aIx (.tup [.str "top", .tup (ps.map pairT)]) (.int 0) B = some (.str "top") := fun B => ixT (i := 0) rfl B
    have i1 : ∀ B, aIx (.tup [.str "top", .tup (ps.map pairT)]) (.int 1) B = some (.tup (ps.map pairT)) := fun B => ixT (i := 1) rfl B
    have e := P.top A ps row h
    refine ⟨A, ?_, Ex.refl A⟩
    show (evSs c bAtom [some (.pt ks), some (.tup [.str "top", .tup (ps.map pairT)]), some (rowI row), none, none] A).fin = .ok (.int (topV ks ps row)) A
    generalize AV.tup [.str "top", .tup (ps.map pairT)] = u at i0 i1
    generalize AV.tup (ps.map pairT) = v at i1 e
    simp [bAtom, i0, i1, e]
  | pack s names n =>
    obtain ⟨hn, h0, h1⟩ := h
    obtain ⟨A', e, x⟩ := P.such A names row hn hr hz
    have lz := memb_len ks names row
    have i0 : ∀ B, aIx (.tup [.str "pack", .int s, .pt names, .int n]) (.int 0) B = some (.str "pack") := fun B => ixT (i := 0) rfl B
    have i1 : ∀ B, aIx (.tup [.str "pack", .int s, .pt names, .int n]) (.int 1) B = some (.int s) := fun B => ixT (i := 1) rfl B
    have i2 : ∀ B, aIx (.tup [.str "pack", .int s, .pt names, .int n]) (.int 2) B = some (.pt names) := fun B => ixT (i := 2) rfl B
    have i3 : ∀ B, aIx (.tup [.str "pack", .int s, .pt names, .int n]) (.int 3) B = some (.int n) := fun B => ixT (i := 3) rfl B
    refine ⟨A', ?_, x⟩
    have fd : aBin .fdiv (.int (((memb ks names row).length : Int) + (s : Int) - 1)) (.int (s : Int)) A' = .ok (.int (cdiv (memb ks names row).length s : Nat)) A' := by
      rw [fdiv_int A' (by omega) (log_s h1)]
      have : ((memb ks names row).length : Int) + (s : Int) - 1 = (((memb ks names row).length + s - 1 : Nat) : Int) := by omega
      rw [this]
      rfl
    have cl : cdiv (memb ks names row).length s ≤ 20000 := by
      unfold cdiv
      exact Nat.le_trans (Nat.div_le_self _ _) (by omega)
    have mu : aBin .mul (.int n) (.int (cdiv (memb ks names row).length s : Nat)) A' = .ok (.int (n * (cdiv (memb ks names row).length s : Nat))) A' := mul_r A' (by omega)
    show (evSs c bAtom [some (.pt ks), some (.tup [.str "pack", .int s, .pt names, .int n]), some (rowI row), none, none] A).fin = .ok (.int (n * (cdiv (memb ks names row).length s : Nat))) A'
    generalize AV.tup [.str "pack", .int s, .pt names, .int n] = u at i0 i1 i2 i3
    have l1 := len_row (memb ks names row) A'
    generalize rowI (memb ks names row) = w at e l1
    generalize ((cdiv (memb ks names row).length s : Nat) : Int) = q2 at fd mu ⊢
    generalize ((memb ks names row).length : Int) = q at l1 fd
    simp [bAtom, i0, i1, i2, i3, e, l1, fd, mu]
  | stair names ns =>
    obtain ⟨hn, h0⟩ := h
    obtain ⟨A', e, x⟩ := P.such A names row hn hr hz
    have lz := memb_len ks names row
    have i0 : ∀ B, aIx (.tup [.str "stair", .pt names, stT ns]) (.int 0) B = some (.str "stair") := fun B => ixT (i := 0) rfl B
    have i1 : ∀ B, aIx (.tup [.str "stair", .pt names, stT ns]) (.int 1) B = some (.pt names) := fun B => ixT (i := 1) rfl B
    have i2 : ∀ B, aIx (.tup [.str "stair", .pt names, stT ns]) (.int 2) B = some (stT ns) := fun B => ixT (i := 2) rfl B
    have s1 := P.stair A' ns (memb ks names row).length h0 (by omega)
    refine ⟨A', ?_, x⟩
    show (evSs c bAtom [some (.pt ks), some (.tup [.str "stair", .pt names, stT ns]), some (rowI row), none, none] A).fin = .ok (.int (stairV ns (memb ks names row).length)) A'
    generalize AV.tup [.str "stair", .pt names, stT ns] = u at i0 i1 i2
    have l1 := len_row (memb ks names row) A'
    generalize rowI (memb ks names row) = w at e l1
    generalize stT ns = v at i2 s1
    generalize ((memb ks names row).length : Int) = q at l1 s1
    simp [bAtom, i0, i1, i2, e, l1, s1]
  | link a b n =>
    have i0 : ∀ B, aIx (.tup [.str "link", .str a, .str b, .int n]) (.int 0) B = some (.str "link") := fun B => ixT (i := 0) rfl B
    have i1 : ∀ B, aIx (.tup [.str "link", .str a, .str b, .int n]) (.int 1) B = some (.str a) := fun B => ixT (i := 1) rfl B
    have i2 : ∀ B, aIx (.tup [.str "link", .str a, .str b, .int n]) (.int 2) B = some (.str b) := fun B => ixT (i := 2) rfl B
    have i3 : ∀ B, aIx (.tup [.str "link", .str a, .str b, .int n]) (.int 3) B = some (.int n) := fun B => ixT (i := 3) rfl B
    have e := P.link A (ks.idxOf a : Nat) (ks.idxOf b : Nat) n row hz
    have x1 := idx_pt (A := A) h.1
    have x2 := idx_pt (A := A) h.2
    have mt : mthTy .index1 (.pt ks) A = true := rfl
    refine ⟨A, ?_, Ex.refl A⟩
    show (evSs c bAtom [some (.pt ks), some (.tup [.str "link", .str a, .str b, .int n]), some (rowI row), none, none] A).fin = .ok (.int (lkV (ks.idxOf a : Nat) (ks.idxOf b : Nat) n row)) A
    generalize AV.tup [.str "link", .str a, .str b, .int n] = u at i0 i1 i2 i3
    generalize ((ks.idxOf a : Nat) : Int) = qa at x1 e ⊢
    generalize ((ks.idxOf b : Nat) : Int) = qb at x2 e ⊢
    simp [bAtom, i0, i1, i2, i3, mt, x1, x2, e]
theorem wplain_ev (c : Cfg) (P : PIs ks M c) (p : Pl) (h : p.ok ks) (A : AH) {row : List Int} (hr : inB row M) (hz : row.length ≤ 10000) :
    (evSs c bWAtom [some (.pt ks), some p.av, some (rowI row), none, none] A).fin = .ok (.int (p.val ks row)) A := by
  cases p with
  | fee n names =>
    have e := P.memb A names row h hr hz
    have lz := memb_len ks names row
    have i0 : ∀ B, aIx (.tup [.str "fee", .int n, .pt names]) (.int 0) B = some (.str "fee") := fun B => ixT (i := 0) rfl B
    have i2 : ∀ B, aIx (.tup [.str "fee", .int n, .pt names]) (.int 2) B = some (.pt names) := fun B => ixT (i := 2) rfl B
    have ct := P.cfee A n (.pt names) (memb ks names row).length (by omega)
    show (evSs c bWAtom [some (.pt ks), some (.tup [.str "fee", .int n, .pt names]), some (rowI row), none, none] A).fin = .ok (.int (if (memb ks names row).length = 0 then 0 else n)) A
    generalize AV.tup [.str "fee", .int n, .pt names] = u at i0 i2 ct
    have l1 := len_row (memb ks names row) A
    generalize rowI (memb ks names row) = w at e l1
    generalize (if (memb ks names row).length = 0 then (0 : Int) else n) = q1 at ct ⊢
    generalize ((memb ks names row).length : Int) = q at l1 ct
    simp [bWAtom, i0, i2, e, l1, ct]
  | each n names =>
    have e := P.memb A names row h hr hz
    have lz := memb_len ks names row
    have i0 : ∀ B, aIx (.tup [.str "each", .int n, .pt names]) (.int 0) B = some (.str "each") := fun B => ixT (i := 0) rfl B
    have i2 : ∀ B, aIx (.tup [.str "each", .int n, .pt names]) (.int 2) B = some (.pt names) := fun B => ixT (i := 2) rfl B
    have ct := P.ceach A n (.pt names) (memb ks names row).length (by omega)
    show (evSs c bWAtom [some (.pt ks), some (.tup [.str "each", .int n, .pt names]), some (rowI row), none, none] A).fin = .ok (.int (n * ((memb ks names row).length : Int))) A
    generalize AV.tup [.str "each", .int n, .pt names] = u at i0 i2 ct
    have l1 := len_row (memb ks names row) A
    generalize rowI (memb ks names row) = w at e l1
    generalize ((memb ks names row).length : Int) = q at l1 ct ⊢
    simp [bWAtom, i0, i2, e, l1, ct]
  | top ps =>
    have i0 : ∀ B, aIx (.tup [.str "top", .tup (ps.map pairT)]) (.int 0) B = some (.str "top") := fun B => ixT (i := 0) rfl B
    have i1 : ∀ B, aIx (.tup [.str "top", .tup (ps.map pairT)]) (.int 1) B = some (.tup (ps.map pairT)) := fun B => ixT (i := 1) rfl B
    have e := P.wtop A ps row h hr
    show (evSs c bWAtom [some (.pt ks), some (.tup [.str "top", .tup (ps.map pairT)]), some (rowI row), none, none] A).fin = .ok (.int (topV ks ps row)) A
    generalize AV.tup [.str "top", .tup (ps.map pairT)] = u at i0 i1
    generalize AV.tup (ps.map pairT) = v at i1 e
    simp [bWAtom, i0, i1, e]
  | pack s names n =>
    obtain ⟨hn, h0, h1⟩ := h
    have e := P.memb A names row hn hr hz
    have lz := memb_len ks names row
    have i0 : ∀ B, aIx (.tup [.str "pack", .int s, .pt names, .int n]) (.int 0) B = some (.str "pack") := fun B => ixT (i := 0) rfl B
    have i2 : ∀ B, aIx (.tup [.str "pack", .int s, .pt names, .int n]) (.int 2) B = some (.pt names) := fun B => ixT (i := 2) rfl B
    have ct := P.cpack A s n (.pt names) (memb ks names row).length h0 (by omega)
    show (evSs c bWAtom [some (.pt ks), some (.tup [.str "pack", .int s, .pt names, .int n]), some (rowI row), none, none] A).fin = .ok (.int (n * (cdiv (memb ks names row).length s : Nat))) A
    generalize AV.tup [.str "pack", .int s, .pt names, .int n] = u at i0 i2 ct
    have l1 := len_row (memb ks names row) A
    generalize rowI (memb ks names row) = w at e l1
    generalize n * ((cdiv (memb ks names row).length s : Nat) : Int) = q2 at ct ⊢
    generalize ((memb ks names row).length : Int) = q at l1 ct
    simp [bWAtom, i0, i2, e, l1, ct]
  | stair names ns =>
    obtain ⟨hn, h0⟩ := h
    have e := P.memb A names row hn hr hz
    have lz := memb_len ks names row
    have i0 : ∀ B, aIx (.tup [.str "stair", .pt names, stT ns]) (.int 0) B = some (.str "stair") := fun B => ixT (i := 0) rfl B
    have i1 : ∀ B, aIx (.tup [.str "stair", .pt names, stT ns]) (.int 1) B = some (.pt names) := fun B => ixT (i := 1) rfl B
    have ct := P.cstair A ns (.pt names) (memb ks names row).length h0 (by omega)
    show (evSs c bWAtom [some (.pt ks), some (.tup [.str "stair", .pt names, stT ns]), some (rowI row), none, none] A).fin = .ok (.int (stairV ns (memb ks names row).length)) A
    generalize AV.tup [.str "stair", .pt names, stT ns] = u at i0 i1 ct
    have l1 := len_row (memb ks names row) A
    generalize rowI (memb ks names row) = w at e l1
    generalize ((memb ks names row).length : Int) = q at l1 ct
    simp [bWAtom, i0, i1, e, l1, ct]
  | link a b n =>
    have i0 : ∀ B, aIx (.tup [.str "link", .str a, .str b, .int n]) (.int 0) B = some (.str "link") := fun B => ixT (i := 0) rfl B
    have e := P.wlink A a b n row h.1 h.2 hr
    show (evSs c bWAtom [some (.pt ks), some (.tup [.str "link", .str a, .str b, .int n]), some (rowI row), none, none] A).fin = .ok (.int (lkV (ks.idxOf a : Nat) (ks.idxOf b : Nat) n row)) A
    generalize AV.tup [.str "link", .str a, .str b, .int n] = u at i0 e
    simp [bWAtom, i0, e]
/-! ### costs -/
abbrev CE := Int × AV × Val
def ceT (e : CE) : AV := .tup [.int e.1, e.2.1]
def costT (L : List CE) : AV := .tup (L.map ceT)
def costV (L : List CE) : Val := fun row => (L.map fun e => e.1 * e.2.2 row).sum
def ceOk (L : List CE) : Prop := ∀ e ∈ L, -10000 ≤ e.1 ∧ e.1 ≤ 10000
theorem costV_snoc (L : List CE) (e : CE) (row : List Int) : costV (L ++ [e]) row = costV L row + e.1 * e.2.2 row := by
  unfold costV; rw [List.map_append, List.sum_append]; simp
def bMean : List S := [.asg (.name 3) (.lit (.int 0)),
    .for_ (.tup [(.name 4), (.name 5)]) (.v (.var 1)) [.aug 3 .add (.bin .mul (.var 4) (.call "atom_meaning" [(.var 0), (.var 5), (.var 2)] []))],
    .ret (.var 3)]
def bWalked : List S := [.ret (.lf .sum (.comp [3, 4] (.v (.var 1)) (.tup [(.name 3), (.name 4)]) (.lit (.bl true)) (.bin .mul (.var 3) (.call "_law_walked_atom" [(.var 0), (.var 4), (.var 2)] []))))]
theorem mean_ev (c : Cfg) {L : List CE} (hL : ceOk L) (h : ∀ e ∈ L, atomIs ks M c e.2.1 e.2.2) (A : AH) {row : List Int} (hr : inB row M) (hz : row.length ≤ 10000) :
    ∃ A', (evSs c bMean [some (.pt ks), some (costT L), some (rowI row), none, none, none] A).fin = .ok (.int (costV L row)) A' ∧ Ex A A' := by
  have loop : ∃ σ' A', evS c (.for_ (.tup [(.name 4), (.name 5)]) (.v (.var 1)) [.aug 3 .add (.bin .mul (.var 4) (.call "atom_meaning" [(.var 0), (.var 5), (.var 2)] []))]) [some (.pt ks), some (costT L), some (rowI row), some (.int 0), none, none] A = .next σ' A' ∧
      ∃ o4 o5, σ' = [some (.pt ks), some (costT L), some (rowI row), some (.int (costV (L.take (L.map ceT).length) row)), o4, o5] ∧ Ex A A' := by
    rw [forV (xs := L.map ceT) rfl]
    refine for_end (fun i σ A' => ∃ o4 o5, σ = [some (.pt ks), some (costT L), some (rowI row), some (.int (costV (L.take i) row)), o4, o5] ∧ Ex A A') ⟨none, none, rfl, Ex.refl A⟩ (fun _ _ _ _ _ => rfl) (fun i x σ B hx hi => ?_)
    obtain ⟨o4, o5, rfl, ex⟩ := hi
    rw [List.getElem?_map] at hx
    obtain ⟨e, he, rfl⟩ := Option.map_eq_some_iff.mp hx
    have hm := List.mem_of_getElem? he
    obtain ⟨B2, e2, x2⟩ := h e hm B row hr hz
    have mu := mul_l B2 (i := e.1) (j := e.2.2 row) (by have := hL e hm; omega)
    refine ⟨[some (.pt ks), some (costT L), some (rowI row), some (.int (costV (L.take i) row)), some (.int e.1), some e.2.1], B, by simp [ceT, evTg_tup], [some (.pt ks), some (costT L), some (rowI row), some (.int (costV (L.take (i + 1)) row)), some (.int e.1), some e.2.1], B2, ?_, _, _, rfl, ex.trans x2⟩
    rw [take_get he, costV_snoc]
    simp only [evSs_cons, evS_aug, evE_bin, evE_call, evEs_cons, evE_var, List.getElem?_cons_zero, List.getElem?_cons_succ, List.set_cons_zero, List.set_cons_succ, bind_ok, kCons_eq, evEs_nil, kCons2_eq, kCall_eq, List.append_nil, e2, kBin_eq, mu, kAug_eq, augadd_int, out_ok, kAug2_eq, seq_next, kSs_eq, evSs_nil]
  obtain ⟨σ', A', h1, o4, o5, rfl, ex⟩ := loop
  rw [List.length_map, List.take_length] at h1
  exact ⟨A', by simp [bMean, h1], ex⟩
theorem walked_ev (c : Cfg) {L : List CE} (hL : ceOk L) (hl : L.length ≤ 1000) (h : ∀ e ∈ L, walkIs ks M c e.2.1 e.2.2) (A : AH) {row : List Int} (hr : inB row M) (hz : row.length ≤ 10000) :
    ∃ A', (evSs c bWalked [some (.pt ks), some (costT L), some (rowI row), none, none] A).fin = .ok (.int (costV L row)) A' ∧ Ex A A' := by
  have e1 : ∃ A', evL c (.comp [3, 4] (.v (.var 1)) (.tup [(.name 3), (.name 4)]) (.lit (.bl true)) (.bin .mul (.var 3) (.call "_law_walked_atom" [(.var 0), (.var 4), (.var 2)] []))) [some (.pt ks), some (costT L), some (rowI row), none, none] A = .ok ((L.map fun e => e.1 * e.2.2 row).map .int) A' ∧ Ex A A' := by
    rw [compV (xs := L.map ceT) rfl]
    obtain ⟨acc, A', h1, h2, rfl⟩ := comp_run (chk := (Itm.val (L.map ceT)).chk) (tg := fun x A => evTg c (.tup [(.name 3), (.name 4)]) x (wipeS [some (.pt ks), some (costT L), some (rowI row), none, none] [3, 4]) A) (q := fun σ A => (evE c (.lit (.bl true)) σ A).bind tru)
      (elt := fun σ A => evE c (.bin .mul (.var 3) (.call "_law_walked_atom" [(.var 0), (.var 4), (.var 2)] [])) σ A) (xs := L.map ceT) (A := A) (fun i acc A' => Ex A A' ∧ acc = ((L.take i).map fun e => e.1 * e.2.2 row).map AV.int) ⟨Ex.refl A, rfl⟩
      (by rw [List.length_map]; exact Nat.le_of_lt (size_big (by omega))) (fun i acc A' _ ⟨_, e⟩ => ⟨rfl, by rw [e]; simp; omega⟩) (fun i x acc A1 hx ⟨ex, e⟩ => by
        rw [List.getElem?_map] at hx
        obtain ⟨ce, he, rfl⟩ := Option.map_eq_some_iff.mp hx
        have hm := List.mem_of_getElem? he
        obtain ⟨B2, e2, x2⟩ := h ce hm A1 row hr hz
        have mu := mul_l B2 (i := ce.1) (j := ce.2.2 row) (by have := hL ce hm; omega)
        refine ⟨[some (.pt ks), some (costT L), some (rowI row), some (.int ce.1), some ce.2.1], A1, true, A1, by simp [ceT, evTg_tup, wipeS], rfl, ?_⟩
        rw [if_pos rfl]
        refine ⟨.int (ce.1 * ce.2.2 row), B2, ?_, ex.trans x2, by rw [e, take_get he]; simp⟩
        simp only [evE_bin, evE_call, evEs_cons, evE_var, List.getElem?_cons_zero, List.getElem?_cons_succ, bind_ok, kCons_eq, evEs_nil, kCons2_eq, kCall_eq, List.append_nil, e2, kBin_eq, mu])
    rw [List.length_map, List.take_length] at h1
    exact ⟨A', h1, h2⟩
  obtain ⟨A', e1, ex⟩ := e1
  exact ⟨A', by simp only [bWalked, evSs_cons, evS_ret, evE_lf, e1, bind_ok, aLF, intsOf_map, out_ok, seq_ret, fin_ret, costV], ex⟩
/-! ### only, sum -/
theorem only_ev (c : Cfg) (P : PIs ks M c) {names : List Str} (hn : NmOk ks names) {w : AV} {v : Val} (h : ∀ A row, inB row M → row.length ≤ 10000 → ∃ A', c.fn "meaning_of" [.pt ks, w, rowI row] A = .ok (.int (v row)) A' ∧ Ex A A') (A : AH) {row : List Int} (hr : inB row M) (hz : row.length ≤ 10000) :
    ∃ A', (evSs c bAtom [some (.pt ks), some (.tup [.str "only", .pt names, w]), some (rowI row), none, none] A).fin = .ok (.int (v (memb ks names row))) A' ∧ Ex A A' := by
  obtain ⟨A', e, x⟩ := P.such A names row hn hr hz
  have lz := memb_len ks names row
  obtain ⟨A2, e2, x2⟩ := h A' (memb ks names row) (memb_in hr) (by omega)
  have i0 : ∀ B, aIx (.tup [.str "only", .pt names, w]) (.int 0) B = some (.str "only") := fun B => ixT (i := 0) rfl B
  have i1 : ∀ B, aIx (.tup [.str "only", .pt names, w]) (.int 1) B = some (.pt names) := fun B => ixT (i := 1) rfl B
  have i2 : ∀ B, aIx (.tup [.str "only", .pt names, w]) (.int 2) B = some w := fun B => ixT (i := 2) rfl B
  refine ⟨A2, ?_, x.trans x2⟩
  generalize AV.tup [.str "only", .pt names, w] = u at i0 i1 i2
  simp [bAtom, i0, i1, i2, e, e2]
theorem wonly_ev (c : Cfg) (P : PIs ks M c) {names : List Str} (hn : NmOk ks names) {w : AV} {v : Val} (h : ∀ A row, inB row M → row.length ≤ 10000 → ∃ A', c.fn "_law_walked" [.pt ks, w, rowI row] A = .ok (.int (v row)) A' ∧ Ex A A') (A : AH) {row : List Int} (hr : inB row M) (hz : row.length ≤ 10000) :
    ∃ A', (evSs c bWAtom [some (.pt ks), some (.tup [.str "only", .pt names, w]), some (rowI row), none, none] A).fin = .ok (.int (v (memb ks names row))) A' ∧ Ex A A' := by
  have e := P.memb A names row hn hr hz
  have lz := memb_len ks names row
  obtain ⟨A2, e2, x2⟩ := h A (memb ks names row) (memb_in hr) (by omega)
  have i0 : ∀ B, aIx (.tup [.str "only", .pt names, w]) (.int 0) B = some (.str "only") := fun B => ixT (i := 0) rfl B
  have i1 : ∀ B, aIx (.tup [.str "only", .pt names, w]) (.int 1) B = some (.pt names) := fun B => ixT (i := 1) rfl B
  have i2 : ∀ B, aIx (.tup [.str "only", .pt names, w]) (.int 2) B = some w := fun B => ixT (i := 2) rfl B
  refine ⟨A2, ?_, x2⟩
  generalize AV.tup [.str "only", .pt names, w] = u at i0 i1 i2
  simp [bWAtom, i0, i1, i2, e, e2]
theorem sum_ev (c : Cfg) {w : AV} {v : Val} (h : ∀ A row, inB row M → row.length ≤ 10000 → ∃ A', c.fn "meaning_of" [.pt ks, w, rowI row] A = .ok (.int (v row)) A' ∧ Ex A A') (A : AH) {row : List Int} (hr : inB row M) (hz : row.length ≤ 10000) :
    ∃ A', (evSs c bAtom [some (.pt ks), some (.tup [.str "sum", w]), some (rowI row), none, none] A).fin = .ok (.int (v row)) A' ∧ Ex A A' := by
  obtain ⟨A2, e2, x2⟩ := h A row hr hz
  have i0 : ∀ B, aIx (.tup [.str "sum", w]) (.int 0) B = some (.str "sum") := fun B => ixT (i := 0) rfl B
  have i1 : ∀ B, aIx (.tup [.str "sum", w]) (.int 1) B = some w := fun B => ixT (i := 1) rfl B
  refine ⟨A2, ?_, x2⟩
  generalize AV.tup [.str "sum", w] = u at i0 i1
  simp [bAtom, i0, i1, e2]
theorem wsum_ev (c : Cfg) {w : AV} {v : Val} (h : ∀ A row, inB row M → row.length ≤ 10000 → ∃ A', c.fn "_law_walked" [.pt ks, w, rowI row] A = .ok (.int (v row)) A' ∧ Ex A A') (A : AH) {row : List Int} (hr : inB row M) (hz : row.length ≤ 10000) :
    ∃ A', (evSs c bWAtom [some (.pt ks), some (.tup [.str "sum", w]), some (rowI row), none, none] A).fin = .ok (.int (v row)) A' ∧ Ex A A' := by
  obtain ⟨A2, e2, x2⟩ := h A row hr hz
  have i0 : ∀ B, aIx (.tup [.str "sum", w]) (.int 0) B = some (.str "sum") := fun B => ixT (i := 0) rfl B
  have i1 : ∀ B, aIx (.tup [.str "sum", w]) (.int 1) B = some w := fun B => ixT (i := 1) rfl B
  refine ⟨A2, ?_, x2⟩
  generalize AV.tup [.str "sum", w] = u at i0 i1
  simp [bWAtom, i0, i1, e2]
end
end Ev


set_option Elab.async false
set_option linter.all false
set_option maxRecDepth 100000
set_option maxHeartbeats 8000000
namespace Ev
open PySem L2 Sh

/-! ### the pool -/
def txt1 : Str := "a pump shore mill c road well ab hill zz crew bay tower q dock lane ferry gate weir farm sluice cliff "
def txt2 : Str := "x moor n kiln harbour m barn pier s yard fold bridge copse t meadow u"
def poolL : List Str := Txt.split (txt1 ++ txt2) " "
def sOkB (z : Str) : Bool := SeqAt.shaped (.str z)
theorem pool_ok : poolL.Nodup ∧ poolL.all sOkB = true ∧ ("" : Str) ∉ poolL ∧ 10 ≤ poolL.length ∧ poolL.length ≤ 1000 := by decide +kernel
theorem txt_len : txt1.length + txt2.length ≤ 1000 ∧ (txt1 ++ txt2).length ≤ 1000 ∧ ((" " : Str).length == 0) = false := by decide +kernel

/-! ### draws -/
def bNumber : List S := [.ret (.ite (.cmp .eq (.call "_law_draw" [(.var 0), (.lit (.int 2))] []) (.lit (.int 0))) (.call "_law_draw" [(.var 0), (.lit (.int 10))] []) (.call "_law_draw" [(.var 0), (.lit (.int 10000))] []))]
def bFactor : List S := [.asg (.name 1) (.bin .add (.lit (.int 1)) (.ite (.cmp .gt (.call "_law_draw" [(.var 0), (.lit (.int 3))] []) (.lit (.int 0))) (.call "_law_draw" [(.var 0), (.lit (.int 4))] []) (.call "_law_draw" [(.var 0), (.lit (.int 9999))] []))),
    .ret (.ite (.cmp .eq (.call "_law_draw" [(.var 0), (.lit (.int 3))] []) (.lit (.int 1))) (.neg (.var 1)) (.var 1))]
def numIs (c : Cfg) : Prop := ∀ A d, Dr A d → ∃ v A', c.fn "_law_number" [.ref d] A = .ok (.int v) A' ∧ Fr d A A'
def facIs (c : Cfg) : Prop := ∀ A d, Dr A d → ∃ v A', c.fn "_law_factor" [.ref d] A = .ok (.int v) A' ∧ -10000 ≤ v ∧ v ≤ 10000 ∧ Fr d A A'
theorem number_ev (c : Cfg) (D : drawIs c) {A : AH} {d : Nat} (h : Dr A d) : ∃ v A', (evSs c bNumber [some (.ref d)] A).fin = .ok (.int v) A' ∧ Fr d A A' := by
  obtain ⟨v1, A1, e1, _, _, F1⟩ := D A d 2 h (by omega) (by omega)
  by_cases h1 : v1 = 0
  · obtain ⟨v2, A2, e2, _, _, F2⟩ := D A1 d 10 F1.dr (by omega) (by omega)
    exact ⟨v2, A2, by simp [bNumber, e1, h1, e2], F1.trans F2⟩
  · obtain ⟨v2, A2, e2, _, _, F2⟩ := D A1 d 10000 F1.dr (by omega) (by omega)
    exact ⟨v2, A2, by simp [bNumber, e1, h1, e2], F1.trans F2⟩
theorem factor_ev (c : Cfg) (D : drawIs c) {A : AH} {d : Nat} (h : Dr A d) : ∃ v A', (evSs c bFactor [some (.ref d), none] A).fin = .ok (.int v) A' ∧ -10000 ≤ v ∧ v ≤ 10000 ∧ Fr d A A' := by
  obtain ⟨v1, A1, e1, _, _, F1⟩ := D A d 3 h (by omega) (by omega)
  have m : ∃ v2 A2, 0 ≤ v2 ∧ v2 < 9999 ∧ Fr d A1 A2 ∧ evE c (.ite (.cmp .gt (.call "_law_draw" [(.var 0), (.lit (.int 3))] []) (.lit (.int 0))) (.call "_law_draw" [(.var 0), (.lit (.int 4))] []) (.call "_law_draw" [(.var 0), (.lit (.int 9999))] [])) [some (.ref d), none] A = .ok (.int v2) A2 := by
    by_cases h1 : 0 < v1
    · obtain ⟨v2, A2, e2, p2, q2, F2⟩ := D A1 d 4 F1.dr (by omega) (by omega)
      exact ⟨v2, A2, p2, by omega, F2, by simp [e1, h1, e2]⟩
    · obtain ⟨v2, A2, e2, p2, q2, F2⟩ := D A1 d 9999 F1.dr (by omega) (by omega)
      exact ⟨v2, A2, p2, q2, F2, by simp [e1, h1, e2]⟩
  obtain ⟨v2, A2, p2, q2, F2, e2⟩ := m
  obtain ⟨v3, A3, e3, _, _, F3⟩ := D A2 d 3 F2.dr (by omega) (by omega)
  have es : evSs c bFactor [some (.ref d), none] A = evSs c (bFactor.drop 1) [some (.ref d), some (.int (1 + v2))] A2 := by
    show evSs c (_ :: bFactor.drop 1) _ A = _
    simp only [evSs_cons, evS_asg, evE_bin, evE_lit, bind_ok, e2, kBin_eq, add_int, out_ok, kAsg_eq, evTg_name, List.set_cons_zero, List.set_cons_succ, seq_next, kSs_eq]
  rw [es]
  by_cases h3 : v3 = 1
  · exact ⟨-(1 + v2), A3, by simp [bFactor, e3, h3], by omega, by omega, (F1.trans F2).trans F3⟩
  · exact ⟨1 + v2, A3, by simp [bFactor, e3, h3], by omega, by omega, (F1.trans F2).trans F3⟩
def bNames : List S := [.asg (.name 2) (.call "_law_shuffled" [(.var 0), (.bif .listof [(.var 1)])] []),
    .ret (.bif .tupofs [(.sl (.var 2) none (some (.bin .add (.lit (.int 1)) (.call "_law_draw" [(.var 0), (.bif .len [(.var 2)])] []))))])]
def shufIs (c : Cfg) : Prop := ∀ A d rv xs, Dr A d → seqOf A rv = some xs → xs.length ≤ 1000 → ∃ A' n ys, c.fn "_law_shuffled" [.ref d, rv] A = .ok (.ref n) A' ∧ Fr d A A' ∧ A.length ≤ n ∧ A'[n]? = some (.lst ys) ∧ ys.Perm xs
theorem strs_perm {ys : List AV} {ks : List Str} (h : ys.Perm (ks.map AV.str)) : ∃ zs : List Str, ys = zs.map .str ∧ zs.Perm ks := by
  have e : ∃ zs : List Str, ys = zs.map .str := by
    have hm : ∀ y ∈ ys, y ∈ ks.map AV.str := fun y hy => h.subset hy
    clear h
    induction ys with
    | nil => exact ⟨[], rfl⟩
    | cons y r ih =>
      obtain ⟨zs, e⟩ := ih fun z hz => hm z (List.mem_cons_of_mem _ hz)
      obtain ⟨i, _, rfl⟩ := List.mem_map.mp (hm y (by simp))
      exact ⟨i :: zs, by rw [e]; rfl⟩
  obtain ⟨zs, rfl⟩ := e
  refine ⟨zs, rfl, ?_⟩
  have inj : ∀ l : List Str, (l.map AV.str).map (fun v => match v with | .str x => x | _ => default) = l := fun l => by
    rw [List.map_map]; exact List.map_id l
  have := h.map (fun v => match v with | AV.str x => x | _ => default)
  rw [inj, inj] at this
  exact this
section
variable {ks : List Str} {M : Nat}
theorem names_ev (c : Cfg) (D : drawIs c) (sh : shufIs c) (h6 : ks.length ≤ 6) (h0 : ks ≠ []) {A : AH} {d : Nat} (h : Dr A d) : ∃ names A', (evSs c bNames [some (.ref d), some (.pt ks), none] A).fin = .ok (.pt names) A' ∧ NmOk ks names ∧ Fr d A A' := by
  have F0 : Fr d A (A ++ [.lst (ks.map .str)]) := Fr.app h _
  have g := get_new A (.lst (ks.map AV.str))
  obtain ⟨A1, n, ys, e1, F1, hn, g1, hp⟩ := sh _ d (.ref A.length) (ks.map .str) F0.dr (seq_ref g) (by rw [List.length_map]; omega)
  obtain ⟨zs, rfl, hz⟩ := strs_perm hp
  have zl := hz.length_eq
  have k0 : 0 < ks.length := List.length_pos_iff.mpr h0
  have dlt := h.lt
  have hl := F0.len
  have nd : n ≠ d := by omega
  obtain ⟨v, A2, e2, p2, q2, F2⟩ := D A1 d zs.length F1.dr (by omega) (by omega)
  have g2 : A2[n]? = some (.lst (zs.map .str)) := by rw [F2.old n (get_lt g1) nd]; exact g1
  obtain ⟨j, rfl⟩ : ∃ j : Nat, v = j := ⟨v.toNat, by omega⟩
  have cutE : cut (zs.map AV.str) none (some (1 + (j : Int))) = (zs.take (1 + j)).map .str := by
    rw [show (1 : Int) + (j : Int) = ((1 + j : Nat) : Int) by omega, cut_to, List.map_take]
  have sl : aSl (.ref n) none (some (1 + (j : Int))) A2 = .ok (.ref A2.length) (A2 ++ [.lst ((zs.take (1 + j)).map .str)]) := by
    simp only [aSl, g2, cutE]
  have g3 := get_new A2 (.lst ((zs.take (1 + j)).map AV.str))
  have ne : zs.take (1 + j) ≠ [] := by
    intro e
    have := congrArg List.length e
    rw [List.length_take, List.length_nil] at this
    omega
  have tp : aBif .tupofs [.ref A2.length] (A2 ++ [.lst ((zs.take (1 + j)).map .str)]) = .ok (.pt (zs.take (1 + j))) (A2 ++ [.lst ((zs.take (1 + j)).map .str)]) := by
    simp only [aBif, lstOf, g3, mkT_strs ne]
  have l1 : aBif .len [.ref n] A1 = .ok (.int (zs.length : Int)) A1 := by
    have := len_ref g1
    rw [List.length_map] at this; exact this
  refine ⟨zs.take (1 + j), _, ?_, ⟨fun z hz' => hz.subset (List.mem_of_mem_take hz'), by rw [List.length_take]; omega, ne⟩, ((F0.trans F1).trans F2).trans (Fr.app F2.dr [.lst ((zs.take (1 + j)).map .str)])⟩
  have lo : aBif .listof [.pt ks] A = .ok (.ref A.length) (A ++ [.lst (ks.map .str)]) := rfl
  simp only [bNames, evSs_cons, evS_asg, evE_call, evEs_cons, evE_bif, evE_var, List.getElem?_cons_zero, List.getElem?_cons_succ, List.set_cons_zero, List.set_cons_succ, bind_ok, kCons_eq, evEs_nil, kCons2_eq, lo, kCall_eq, List.append_nil, e1, out_ok, kAsg_eq, evTg_name, seq_next, kSs_eq, evS_ret, evE_sl, kSl_eq, evO_none, evO_some, evE_bin, evE_lit, l1, e2, kBin_eq, add_int, kO_eq, kSl2_eq, sl, tp, seq_ret, fin_ret]
/-- numbers, drawn one by one -/
theorem nums_ev (c : Cfg) (N : numIs c) {A : AH} {d n i vd : Nat} {e : E} {σ : Sl} (h : Dr A d) (hn : n ≤ 1000) (he : evE c e σ A = .ok (.int n) A) (hd : σ[vd]? = some (some (.ref d))) (nd : vd ≠ i) :
    ∃ (row : List Int) (A' : AH), evL c (.comp [i] (.range1 e) (.name i) (.lit (.bl true)) (.call "_law_number" [(.var vd)] [])) σ A = .ok (row.map .int) A' ∧ Fr d A A' ∧ row.length = n := by
  rw [compN (n := n) (A' := A) he (by omega)]
  obtain ⟨acc, A', h2, F, row, rfl, h3⟩ := comp_run (chk := (Itm.val ((List.range n).map fun (k : Nat) => AV.int k)).chk) (tg := fun x A => evTg c (.name i) x (wipeS σ [i]) A) (q := fun σ A => (evE c (.lit (.bl true)) σ A).bind tru)
    (elt := fun σ A => evE c (.call "_law_number" [(.var vd)] []) σ A) (xs := (List.range n).map fun (k : Nat) => AV.int k) (A := A) (fun i acc A' => Fr d A A' ∧ ∃ row : List Int, acc = row.map .int ∧ row.length = i) ⟨Fr.refl h, [], rfl, rfl⟩
    (by rw [range_len]; exact Nat.le_of_lt (size_big (by omega))) (fun i acc A' _ ⟨_, r, e, hl⟩ => ⟨rfl, by rw [e, List.length_map, hl]; exact Nat.le_refl _⟩) (fun j x acc A1 hx ⟨F, r, e, hl⟩ => by
      obtain ⟨v, A2, e1, F2⟩ := N A1 d F.dr
      refine ⟨_, _, true, A1, rfl, rfl, ?_⟩
      rw [if_pos rfl]
      refine ⟨.int v, A2, ?_, F.trans F2, r ++ [v], by rw [e]; simp, by simp [hl]⟩
      have q1 : ((wipeS σ [i]).set i (some x))[vd]? = some (some (.ref d)) := by
        rw [List.getElem?_set_ne (Ne.symm nd)]; show (σ.set i none)[vd]? = _; rw [List.getElem?_set_ne (Ne.symm nd)]; exact hd
      simp only [evE_call, evEs_cons, evE_var, q1, bind_ok, kCons_eq, evEs_nil, kCons2_eq, kCall_eq, List.append_nil, e1])
  rw [range_len] at h3
  exact ⟨row, A', h2, F, h3⟩
end
end Ev


set_option Elab.async false
set_option linter.all false
set_option maxRecDepth 100000
set_option maxHeartbeats 8000000
namespace Ev
open PySem L2 Sh

def bPlain : List S := [.asg (.name 3) (.call "_law_some_names" [(.var 0), (.var 1)] []),
    .if_ (.cmp .eq (.var 2) (.lit (.int 0))) [.ret (.tup [(.lit (.str "fee")), (.call "_law_number" [(.var 0)] []), (.var 3)])] [],
    .if_ (.cmp .eq (.var 2) (.lit (.int 1))) [.ret (.tup [(.lit (.str "each")), (.call "_law_number" [(.var 0)] []), (.var 3)])] [],
    .if_ (.cmp .eq (.var 2) (.lit (.int 2))) [.ret (.tup [(.lit (.str "top")), (.lf .tups (.comp [4] (.v (.var 3)) (.name 4) (.lit (.bl true)) (.tup [(.var 4), (.call "_law_number" [(.var 0)] [])])))])] [],
    .if_ (.cmp .eq (.var 2) (.lit (.int 3))) [.asg (.name 5) (.bin .add (.lit (.int 1)) (.ite (.cmp .gt (.call "_law_draw" [(.var 0), (.lit (.int 4))] []) (.lit (.int 0))) (.call "_law_draw" [(.var 0), (.lit (.int 5))] []) (.call "_law_draw" [(.var 0), (.lit (.int 9999))] []))),
      .ret (.tup [(.lit (.str "pack")), (.var 5), (.var 3), (.call "_law_number" [(.var 0)] [])])] [],
    .if_ (.cmp .eq (.var 2) (.lit (.int 4))) [.asg (.name 5) (.bin .add (.lit (.int 1)) (.call "_law_draw" [(.var 0), (.lit (.int 6))] [])),
      .if_ (.call "_law_rare" [(.var 0), (.lit (.int 5))] []) [.asg (.name 5) (.lit (.int 40))] [],
      .ret (.tup [(.lit (.str "stair")), (.var 3), (.lf .tups (.comp [6] (.range1 (.var 5)) (.name 6) (.lit (.bl true)) (.call "_law_number" [(.var 0)] [])))])] [],
    .ret (.tup [(.lit (.str "link")), (.call "_law_pick" [(.var 0), (.bif .listof [(.var 1)])] []), (.call "_law_pick" [(.var 0), (.bif .listof [(.var 1)])] []), (.call "_law_number" [(.var 0)] [])])]
def namesIs (c : Cfg) (ks : List Str) : Prop := ∀ A d, Dr A d → ∃ names A', c.fn "_law_some_names" [.ref d, .pt ks] A = .ok (.pt names) A' ∧ NmOk ks names ∧ Fr d A A'
def pick9 (c : Cfg) : Prop := ∀ A d row xs, Dr A d → seqOf A row = some xs → row ≠ .ref d → xs ≠ [] → xs.length < 2 ^ 62 → ∃ x A', c.fn "_law_pick" [.ref d, row] A = .ok x A' ∧ x ∈ xs ∧ Fr d A A'
section
variable {ks : List Str} {M : Nat}
theorem tops_ev (c : Cfg) (N : numIs c) {A : AH} {d : Nat} {names : List Str} (h6 : names.length ≤ 6) (h : Dr A d) (o1 o2 o4 o5 o6 : Option AV) :
    ∃ (ps : List (Str × Int)) (A' : AH), evL c (.comp [4] (.v (.var 3)) (.name 4) (.lit (.bl true)) (.tup [(.var 4), (.call "_law_number" [(.var 0)] [])])) [some (.ref d), o1, o2, some (.pt names), o4, o5, o6] A = .ok (ps.map pairT) A' ∧ Fr d A A' ∧ ∀ p ∈ ps, p.1 ∈ names := by
  have z2 := two_le'
  rw [evL_comp, evI_v]
  simp only [evE_var, List.getElem?_cons_zero, List.getElem?_cons_succ, bind_ok, items_val]
  obtain ⟨acc, A', h2, F, ps, rfl, h3, hl⟩ := comp_run (chk := (Itm.val (names.map AV.str)).chk) (tg := fun x A => evTg c (.name 4) x (wipeS [some (.ref d), o1, o2, some (.pt names), o4, o5, o6] [4]) A) (q := fun σ A => (evE c (.lit (.bl true)) σ A).bind tru)
    (elt := fun σ A => evE c (.tup [(.var 4), (.call "_law_number" [(.var 0)] [])]) σ A) (xs := names.map AV.str) (A := A) (fun i acc A' => Fr d A A' ∧ ∃ ps : List (Str × Int), acc = ps.map pairT ∧ (∀ p ∈ ps, p.1 ∈ names) ∧ ps.length = i) ⟨Fr.refl h, [], rfl, fun p hp => (by cases hp), rfl⟩
    (by rw [List.length_map]; exact Nat.le_of_lt (size_big (by omega))) (fun i acc A' _ ⟨_, r, e, _, hl⟩ => ⟨rfl, by rw [e, List.length_map, hl]; exact Nat.le_refl _⟩) (fun j x acc A1 hx ⟨F, ps, e, hp, hl⟩ => by
      rw [List.getElem?_map] at hx
      obtain ⟨z, hz, rfl⟩ := Option.map_eq_some_iff.mp hx
      obtain ⟨v, A2, e1, F2⟩ := N A1 d F.dr
      refine ⟨_, _, true, A1, rfl, rfl, ?_⟩
      rw [if_pos rfl]
      refine ⟨pairT (z, v), A2, ?_, F.trans F2, ps ++ [(z, v)], by rw [e]; simp, fun p hp' => ?_, by simp [hl]⟩
      · simp only [wipeS, evE_tup, evEs_cons, evE_call, evE_var, List.getElem?_cons_zero, List.getElem?_cons_succ, List.set_cons_zero, List.set_cons_succ, bind_ok, kCons_eq, evEs_nil, kCons2_eq, kCall_eq, List.append_nil, e1, kTup_eq, List.length_cons, List.length_nil, Nat.zero_add, if_pos z2]
        rfl
      · rcases List.mem_append.mp hp' with q | q
        · exact hp p q
        · rw [List.mem_singleton.mp q]; exact List.mem_of_getElem? hz)
  exact ⟨ps, A', h2, F, h3⟩
theorem plain_draw (c : Cfg) (D : drawIs c) (Ra : rareIs c) (N : numIs c) (nm : namesIs c ks) (pk : pick9 c) (h6 : ks.length ≤ 6) (h0 : ks ≠ []) {A : AH} {d : Nat} (h : Dr A d) {way : Nat} (hw : way < 6) :
    ∃ (p : Pl) (A' : AH), (evSs c bPlain [some (.ref d), some (.pt ks), some (.int way), none, none, none, none] A).fin = .ok p.av A' ∧ p.ok ks ∧ Fr d A A' := by
  have z2 : 2 ≤ sizeLine := two_le'
  have z3 : 3 ≤ sizeLine := Nat.le_of_lt (size_big (by omega))
  have z4 : 4 ≤ sizeLine := Nat.le_of_lt (size_big (by omega))
  obtain ⟨names, A1, e1, ok, F1⟩ := nm A d h
  have hd := h.lt
  rcases (by omega : way = 0 ∨ way = 1 ∨ way = 2 ∨ way = 3 ∨ way = 4 ∨ way = 5) with rfl | rfl | rfl | rfl | rfl | rfl
  · obtain ⟨v, A2, e2, F2⟩ := N A1 d F1.dr
    exact ⟨.fee v names, A2, by simp [bPlain, e1, e2, z3, Pl.av], ok, F1.trans F2⟩
  · obtain ⟨v, A2, e2, F2⟩ := N A1 d F1.dr
    exact ⟨.each v names, A2, by simp [bPlain, e1, e2, z3, Pl.av], ok, F1.trans F2⟩
  · obtain ⟨ps, A2, e2, F2, hp⟩ := tops_ev c N ok.len F1.dr (some (.pt ks)) (some (.int 2)) none none none
    have mk : mkT (ps.map pairT) = .tup (ps.map pairT) := by
      have := mkT_tups (ps.map fun p => [.str p.1, .int p.2])
      rw [List.map_map] at this
      exact this
    refine ⟨.top ps, A2, ?_, fun p hp' => ok.sub _ (hp p hp'), F1.trans F2⟩
    show _ = Res.ok (AV.tup [.str "top", .tup (ps.map pairT)]) A2
    have tf : aLF .tups (ps.map pairT) A2 = .ok (.tup (ps.map pairT)) A2 := by simp only [aLF, mk]
    generalize AV.tup (ps.map pairT) = w at tf ⊢
    simp [bPlain, e1, e2, tf, z2]
  · obtain ⟨v1, A2, e2, _, _, F2⟩ := D A1 d 4 F1.dr (by omega) (by omega)
    have fin : ∀ v2 A3, 0 ≤ v2 → v2 < 9999 → Fr d A2 A3 → (∀ (s : Int) (v4 : Int) (A4 : AH), 1 + v2 = s → c.fn "_law_number" [.ref d] A3 = .ok (.int v4) A4 → (evSs c bPlain [some (.ref d), some (.pt ks), some (.int (3 : Nat)), none, none, none, none] A).fin = .ok (.tup [.str "pack", .int s, .pt names, .int v4]) A4) →
        ∃ (p : Pl) (A' : AH), (evSs c bPlain [some (.ref d), some (.pt ks), some (.int (3 : Nat)), none, none, none, none] A).fin = .ok p.av A' ∧ p.ok ks ∧ Fr d A A' := fun v2 A3 p3 q3 F3 hh => by
      obtain ⟨v4, A4, e4, F4⟩ := N A3 d F3.dr
      obtain ⟨s, hs⟩ : ∃ s : Nat, 1 + v2 = s := ⟨(1 + v2).toNat, by omega⟩
      exact ⟨.pack s names v4, A4, hh s v4 A4 hs e4, ⟨ok, by omega, by omega⟩, ((F1.trans F2).trans F3).trans F4⟩
    by_cases h1 : 0 < v1
    · obtain ⟨v2, A3, e3, p3, q3, F3⟩ := D A2 d 5 F2.dr (by omega) (by omega)
      exact fin v2 A3 p3 (by omega) F3 fun s v4 A4 hs e4 => by simp [bPlain, e1, e2, h1, e3, hs, e4, z4]
    · obtain ⟨v2, A3, e3, p3, q3, F3⟩ := D A2 d 9999 F2.dr (by omega) (by omega)
      exact fin v2 A3 p3 (by omega) F3 fun s v4 A4 hs e4 => by simp [bPlain, e1, e2, h1, e3, hs, e4, z4]
  · obtain ⟨v1, A2, e2, p2, q2, F2⟩ := D A1 d 6 F1.dr (by omega) (by omega)
    obtain ⟨b, A3, e3, F3⟩ := Ra A2 d 5 F2.dr (by omega) (by omega)
    obtain ⟨n, hn, n0, n1⟩ : ∃ n : Nat, (if b = true then (40 : Int) else 1 + v1) = n ∧ 0 < n ∧ n ≤ 1000 := by
      cases b
      · exact ⟨(1 + v1).toNat, by simp; omega, by omega, by omega⟩
      · exact ⟨40, rfl, by omega, by omega⟩
    obtain ⟨ns, A4, e4, F4, hl⟩ := nums_ev c N (A := A3) (d := d) (n := n) (i := 6) (vd := 0) (e := .var 5) (σ := [some (.ref d), some (.pt ks), some (.int 4), some (.pt names), none, some (.int n), none]) F3.dr n1 rfl rfl (by decide)
    have tf : aLF .tups (ns.map AV.int) A4 = .ok (stT ns) A4 := by simp only [aLF, mkT_ints]; rfl
    refine ⟨.stair names ns, A4, ?_, ⟨ok, by omega⟩, ((F1.trans F2).trans F3).trans F4⟩
    show _ = Res.ok (AV.tup [.str "stair", .pt names, stT ns]) A4
    generalize stT ns = w at tf ⊢
    cases b with
    | false =>
      have hn : 1 + v1 = (n : Int) := hn
      simp [bPlain, e1, e2, e3, hn, e4, tf, z3]
    | true =>
      have hn : (40 : Int) = (n : Int) := hn
      obtain rfl : n = 40 := by omega
      have e4' := e4
      simp at e4'
      simp [bPlain, e1, e2, e3, e4, e4', tf, z3]
  · have lo : ∀ B : AH, aBif .listof [.pt ks] B = .ok (.ref B.length) (B ++ [.lst (ks.map .str)]) := fun B => rfl
    have kn : ks.map AV.str ≠ [] := fun z => h0 (List.map_eq_nil_iff.mp z)
    have F2 : Fr d A1 (A1 ++ [.lst (ks.map .str)]) := Fr.app F1.dr _
    obtain ⟨x, A3, e3, hx, F3⟩ := pk (A1 ++ [.lst (ks.map .str)]) d (.ref A1.length) (ks.map .str) F2.dr (seq_ref (get_new _ _)) (fun z => by injection z with z; have := F1.dr.lt; omega) kn (by rw [List.length_map]; omega)
    have F4 : Fr d A3 (A3 ++ [.lst (ks.map .str)]) := Fr.app F3.dr _
    obtain ⟨y, A5, e5, hy, F5⟩ := pk (A3 ++ [.lst (ks.map .str)]) d (.ref A3.length) (ks.map .str) F4.dr (seq_ref (get_new _ _)) (fun z => by injection z with z; have := F3.dr.lt; omega) kn (by rw [List.length_map]; omega)
    obtain ⟨v, A6, e6, F6⟩ := N A5 d F5.dr
    obtain ⟨a, ha, rfl⟩ := List.mem_map.mp hx
    obtain ⟨b, hb, rfl⟩ := List.mem_map.mp hy
    refine ⟨.link a b v, A6, ?_, ⟨ha, hb⟩, ((((F1.trans F2).trans F3).trans F4).trans F5).trans F6⟩
    simp [bPlain, e1, lo, e3, e5, e6, z4, Pl.av]
end
end Ev


set_option Elab.async false
set_option linter.all false
set_option maxRecDepth 100000
set_option maxHeartbeats 8000000
namespace Law
open PySem L2 Ev Sh
def fuel : Nat := 1
noncomputable abbrev R (k : Nat) := run (progOf T) gl fuel k
noncomputable abbrev C (k : Nat) : Cfg := ⟨R k, gl, fuel⟩
theorem draw_is (k : Nat) : drawIs (C (k + 1)) := fun A d many h h0 hl => by
  show ∃ v A', R (k + 1) "_law_draw" [.ref d, .int many] A = _ ∧ _
  rw [R, run_eq (e := e__law_draw) rfl A rfl]
  exact draw_ev2 (C k) h h0 hl
theorem rare_is (k : Nat) : rareIs (C (k + 2)) := fun A d many h h0 hl => by
  show ∃ v A', R (k + 2) "_law_rare" [.ref d, .int many] A = _ ∧ _
  rw [R, run_eq (e := e__law_rare) rfl A rfl]
  exact rare_ev (C (k + 1)) (draw_is k) h h0 hl
theorem pick_is (k : Nat) : pick9 (C (k + 2)) := fun A d row xs h hs hd hx hl => by
  rw [show (C (k + 2)).fn = R (k + 2) from rfl]
  rw [R, run_eq (e := e__law_pick) rfl A rfl]
  exact pick_ev (C (k + 1)) (draw_is k) h hs hd hx hl
theorem shuf_is (k : Nat) : shufIs (C (k + 2)) := fun A d rv xs h hr hz => by
  rw [show (C (k + 2)).fn = R (k + 2) from rfl]
  rw [R, run_eq (e := e__law_shuffled) rfl A rfl]
  exact shuf_perm (C (k + 1)) (draw_is k) h hr hz
theorem int_is (k : Nat) : fnIs (C (k + 1)) "_law_is_int" isI := fun A x g => by
  show R (k + 1) "_law_is_int" [x] A = _
  rw [R, run_eq (e := e__law_is_int) rfl A rfl]; exact whole_ev _ g
theorem num_is (k : Nat) : numIs (C (k + 2)) := fun A d h => by
  rw [show (C (k + 2)).fn = R (k + 2) from rfl]
  rw [R, run_eq (e := e__law_number) rfl A rfl]
  exact number_ev (C (k + 1)) (draw_is k) h
theorem fac_is (k : Nat) : facIs (C (k + 2)) := fun A d h => by
  rw [show (C (k + 2)).fn = R (k + 2) from rfl]
  rw [R, run_eq (e := e__law_factor) rfl A rfl]
  exact factor_ev (C (k + 1)) (draw_is k) h
section
variable {ks : List Str} {M : Nat}
/-- the kinds -/
structure KsOk (ks : List Str) (M : Nat) : Prop where
  nd : ks.Nodup
  len : ks.length = M
  m0 : 0 < M
  m6 : M ≤ 6
  ok : ∀ z ∈ ks, sOk z
  em : ("" : Str) ∉ ks
theorem KsOk.ne (K : KsOk ks M) : ks ≠ [] := fun z => by have := K.len; have := K.m0; rw [z] at *; simp at *; omega
theorem names_is (K : KsOk ks M) (k : Nat) : namesIs (C (k + 3)) ks := fun A d h => by
  rw [show (C (k + 3)).fn = R (k + 3) from rfl]
  rw [R, run_eq (e := e__law_some_names) rfl A rfl]
  exact names_ev (C (k + 2)) (draw_is (k + 1)) (shuf_is k) (by rw [K.len]; exact K.m6) K.ne h
theorem plain_is (K : KsOk ks M) (k : Nat) {A : AH} {d : Nat} (h : Dr A d) {way : Nat} (hw : way < 6) : ∃ (p : Pl) (A' : AH), R (k + 4) "_law_plain" [.ref d, .pt ks, .int way] A = .ok p.av A' ∧ p.ok ks ∧ Fr d A A' := by
  rw [R, run_eq (e := e__law_plain) rfl A rfl]
  exact plain_draw (C (k + 3)) (draw_is (k + 2)) (rare_is (k + 1)) (num_is (k + 1)) (names_is K k) (pick_is (k + 1)) (by rw [K.len]; exact K.m6) K.ne h hw
theorem P_is (K : KsOk ks M) (k : Nat) : PIs ks M (C (k + 1)) where
  such := fun A names row h hr hz => by
    rw [show (C (k + 1)).fn = R (k + 1) from rfl]
    rw [R, run_eq (e := e_such_members) rfl A rfl]
    exact such_ev K.nd K.len (C k) A h hr hz
  memb := fun A names row h hr hz => by
    rw [show (C (k + 1)).fn = R (k + 1) from rfl]
    rw [R, run_eq (e := e__law_members) rfl A rfl]
    exact members_ev K.nd K.len (C k) A h hr hz
  top := fun A ps row h => by
    rw [show (C (k + 1)).fn = R (k + 1) from rfl]
    rw [R, run_eq (e := e_top_meaning) rfl A rfl]
    exact top_ev (C k) A h row
  wtop := fun A ps row h hr => by
    rw [show (C (k + 1)).fn = R (k + 1) from rfl]
    rw [R, run_eq (e := e__law_walked_top) rfl A rfl]
    exact wtop_ev K.nd K.len K.ok (C k) A h hr
  stair := fun A ns many h hz => by
    rw [show (C (k + 1)).fn = R (k + 1) from rfl]
    rw [R, run_eq (e := e_stair_meaning) rfl A rfl]
    exact stair_ev (C k) A h hz
  link := fun A ia ib n row hz => by
    rw [show (C (k + 1)).fn = R (k + 1) from rfl]
    rw [R, run_eq (e := e_link_meaning) rfl A rfl]
    exact link_ev (C k) A ia ib n hz
  wlink := fun A a b n row ha hb hr => by
    rw [show (C (k + 1)).fn = R (k + 1) from rfl]
    rw [R, run_eq (e := e__law_walked_link) rfl A rfl]
    exact wlink_ev K.nd K.len K.ok (C k) A ha hb n K.em hr
  cfee := fun A n w many hz => by
    rw [show (C (k + 1)).fn = R (k + 1) from rfl]
    rw [R, run_eq (e := e__law_walked_count) rfl A rfl]
    exact cnt_fee (C k) A n w hz
  ceach := fun A n w many hz => by
    rw [show (C (k + 1)).fn = R (k + 1) from rfl]
    rw [R, run_eq (e := e__law_walked_count) rfl A rfl]
    exact cnt_each (C k) A n w hz
  cpack := fun A s n w many hs hz => by
    rw [show (C (k + 1)).fn = R (k + 1) from rfl]
    rw [R, run_eq (e := e__law_walked_count) rfl A rfl]
    exact cnt_pack (C k) A hs n w hz
  cstair := fun A ns w many h hz => by
    rw [show (C (k + 1)).fn = R (k + 1) from rfl]
    rw [R, run_eq (e := e__law_walked_count) rfl A rfl]
    exact cnt_stair (C k) A h w hz
def AOk (ks : List Str) (M m : Nat) (a : AV) (v : Val) : Prop := ∀ k, atomIs ks M (C (k + m)) a v ∧ walkIs ks M (C (k + m)) a v
theorem AOk.mono {m j : Nat} {a : AV} {v : Val} (h : AOk ks M m a v) : AOk ks M (m + j) a v := fun k => by
  have := h (k + j)
  rw [show k + j + m = k + (m + j) by omega] at this; exact this
theorem AOk.up {m j : Nat} {a : AV} {v : Val} (h : AOk ks M m a v) (hj : m ≤ j) : AOk ks M j a v := by
  obtain ⟨t, rfl⟩ : ∃ t, j = m + t := ⟨j - m, by omega⟩
  exact h.mono
theorem plain_ok (K : KsOk ks M) (p : Pl) (h : p.ok ks) : AOk ks M 2 p.av (p.val ks) := fun k => by
  refine ⟨fun A row hr hz => ?_, fun A row hr hz => ?_⟩
  · rw [show (C (k + 2)).fn = R (k + 2) from rfl]
    rw [R, run_eq (e := e_atom_meaning) rfl A rfl]
    exact plain_ev (C (k + 1)) (P_is K k) p h A hr hz
  · rw [show (C (k + 2)).fn = R (k + 2) from rfl]
    rw [R, run_eq (e := e__law_walked_atom) rfl A rfl]
    exact ⟨A, wplain_ev (C (k + 1)) (P_is K k) p h A hr hz, Ex.refl A⟩
theorem mean_ok {L : List CE} {m : Nat} (hL : ceOk L) (h : ∀ e ∈ L, AOk ks M m e.2.1 e.2.2) (k : Nat) (A : AH) {row : List Int} (hr : inB row M) (hz : row.length ≤ 10000) :
    ∃ A', R (k + m + 1) "meaning_of" [.pt ks, costT L, rowI row] A = .ok (.int (costV L row)) A' ∧ Ex A A' := by
  rw [R, run_eq (e := e_meaning_of) rfl A rfl]
  exact mean_ev (C (k + m)) hL (fun e he => (h e he k).1) A hr hz
theorem walked_ok {L : List CE} {m : Nat} (hL : ceOk L) (hl : L.length ≤ 1000) (h : ∀ e ∈ L, AOk ks M m e.2.1 e.2.2) (k : Nat) (A : AH) {row : List Int} (hr : inB row M) (hz : row.length ≤ 10000) :
    ∃ A', R (k + m + 1) "_law_walked" [.pt ks, costT L, rowI row] A = .ok (.int (costV L row)) A' ∧ Ex A A' := by
  rw [R, run_eq (e := e__law_walked) rfl A rfl]
  exact walked_ev (C (k + m)) hL hl (fun e he => (h e he k).2) A hr hz
theorem only_ok (K : KsOk ks M) {names : List Str} (hn : NmOk ks names) {L : List CE} {m : Nat} (hL : ceOk L) (hl : L.length ≤ 1000) (h : ∀ e ∈ L, AOk ks M m e.2.1 e.2.2) : AOk ks M (m + 2) (.tup [.str "only", .pt names, costT L]) (fun row => costV L (memb ks names row)) := fun k => by
  rw [show k + (m + 2) = k + m + 1 + 1 from rfl]
  refine ⟨fun A row hr hz => ?_, fun A row hr hz => ?_⟩
  · rw [show (C (k + m + 1 + 1)).fn = R (k + m + 1 + 1) from rfl]
    rw [R, run_eq (e := e_atom_meaning) rfl A rfl]
    exact only_ev (C (k + m + 1)) (P_is K (k + m)) hn (fun A row hr hz => mean_ok hL h k A hr hz) A hr hz
  · rw [show (C (k + m + 1 + 1)).fn = R (k + m + 1 + 1) from rfl]
    rw [R, run_eq (e := e__law_walked_atom) rfl A rfl]
    exact wonly_ev (C (k + m + 1)) (P_is K (k + m)) hn (fun A row hr hz => walked_ok hL hl h k A hr hz) A hr hz
theorem sum_ok {L : List CE} {m : Nat} (hL : ceOk L) (hl : L.length ≤ 1000) (h : ∀ e ∈ L, AOk ks M m e.2.1 e.2.2) : AOk ks M (m + 2) (.tup [.str "sum", costT L]) (costV L) := fun k => by
  rw [show k + (m + 2) = k + m + 1 + 1 from rfl]
  refine ⟨fun A row hr hz => ?_, fun A row hr hz => ?_⟩
  · rw [show (C (k + m + 1 + 1)).fn = R (k + m + 1 + 1) from rfl]
    rw [R, run_eq (e := e_atom_meaning) rfl A rfl]
    exact sum_ev (C (k + m + 1)) (fun A row hr hz => mean_ok hL h k A hr hz) A hr hz
  · rw [show (C (k + m + 1 + 1)).fn = R (k + m + 1 + 1) from rfl]
    rw [R, run_eq (e := e__law_walked_atom) rfl A rfl]
    exact wsum_ev (C (k + m + 1)) (fun A row hr hz => walked_ok hL hl h k A hr hz) A hr hz
/-- one question -/
theorem says_ok {L : List CE} {m : Nat} (hL : ceOk L) (hl : L.length ≤ 1000) (h : ∀ e ∈ L, AOk ks M m e.2.1 e.2.2) (k : Nat) (A : AH) {row : List Int} (hr : inB row M) (hz : row.length ≤ 10000) :
    ∃ A', R (k + m + 2) "_law_says" [.pt ks, costT L, rowI row] A = .ok (.bl true) A' ∧ Ex A A' := by
  obtain ⟨A1, e1, x1⟩ := mean_ok hL h k A hr hz
  obtain ⟨A2, e2, x2⟩ := walked_ok hL hl h k A1 hr hz
  have e3 := int_is (k + m) A1 (.int (costV L row)) (.int _)
  have e3 : R (k + m + 1) "_law_is_int" [.int (costV L row)] A1 = .ok (.bl true) A1 := e3
  refine ⟨A2, ?_, x1.trans x2⟩
  rw [R, run_eq (e := e__law_says) rfl A rfl]
  show (evSs (C (k + m + 1)) b__law_says [some (.pt ks), some (costT L), some (rowI row), none] A).fin = _
  generalize costT L = w at e1 e2
  generalize rowI row = u at e1 e2
  simp [b__law_says, e1, e2, e3]
/-- the atoms -/
def Gd (ks : List Str) (M m : Nat) (a : AV) : Prop := ∃ v, AOk ks M m a v
theorem Gd.up {m j : Nat} {a : AV} (h : Gd ks M m a) (hj : m ≤ j) : Gd ks M j a := let ⟨v, q⟩ := h; ⟨v, q.up hj⟩
theorem atoms_ok (K : KsOk ks M) (k : Nat) {A : AH} {d : Nat} (h : Dr A d) : ∃ (r : Nat) (l : List AV) (A' : AH), R (k + 5) "_law_atoms" [.ref d, .pt ks] A = .ok (.ref r) A' ∧ Fr d A A' ∧ A.length ≤ r ∧ A'[r]? = some (.lst l) ∧ l.length = 9 ∧ ∀ a ∈ l, Gd ks M 8 a := by
  rw [R, run_eq (e := e__law_atoms) rfl A rfl]
  show ∃ (r : Nat) (l : List AV) (A' : AH), (evSs (C (k + 4)) b__law_atoms [some (.ref d), some (.pt ks), none, none, none] A).fin = _ ∧ _
  have hd := h.lt
  have z2 : 2 ≤ sizeLine := two_le'
  have z3 : 3 ≤ sizeLine := Nat.le_of_lt (size_big (by omega))
  have z1 : 1 ≤ sizeLine := Nat.le_of_lt (size_big (by omega))
  -- six plain ones
  obtain ⟨l0, A1, e1, F1, hl0, hg0⟩ : ∃ (l0 : List AV) (A1 : AH), evL (C (k + 4)) (.comp [3] (.range1 (.lit (.int 6))) (.name 3) (.lit (.bl true)) (.call "_law_plain" [(.var 0), (.var 1), (.var 3)] [])) [some (.ref d), some (.pt ks), none, none, none] A = .ok l0 A1 ∧ Fr d A A1 ∧ l0.length = 6 ∧ ∀ a ∈ l0, Gd ks M 2 a := by
    rw [compN (n := 6) (A' := A) (by simp) (by omega)]
    obtain ⟨acc, A', h2, F, hl, hg⟩ := comp_run (chk := (Itm.val ((List.range 6).map fun (k : Nat) => AV.int k)).chk) (tg := fun x A => evTg (C (k + 4)) (.name 3) x (wipeS [some (.ref d), some (.pt ks), none, none, none] [3]) A) (q := fun σ A => (evE (C (k + 4)) (.lit (.bl true)) σ A).bind tru)
      (elt := fun σ A => evE (C (k + 4)) (.call "_law_plain" [(.var 0), (.var 1), (.var 3)] []) σ A) (xs := (List.range 6).map fun (k : Nat) => AV.int k) (A := A) (fun i acc A' => Fr d A A' ∧ acc.length = i ∧ ∀ a ∈ acc, Gd ks M 2 a) ⟨Fr.refl h, rfl, fun a ha => (by cases ha)⟩
      (by rw [range_len]; exact Nat.le_of_lt (size_big (by omega))) (fun i acc A' _ ⟨_, hl, _⟩ => ⟨rfl, by rw [hl]; exact Nat.le_refl _⟩) (fun j x acc A1 hx ⟨F, hl, hg⟩ => by
        obtain ⟨hj, rfl⟩ := range_get hx
        obtain ⟨p, A2, e2, ok, F2⟩ := plain_is K k F.dr hj
        refine ⟨_, _, true, A1, rfl, rfl, ?_⟩
        rw [if_pos rfl]
        refine ⟨p.av, A2, ?_, F.trans F2, by simp [hl], fun a ha => ?_⟩
        · simp only [wipeS, evE_call, evEs_cons, evE_var, List.getElem?_cons_zero, List.getElem?_cons_succ, List.set_cons_zero, List.set_cons_succ, bind_ok, kCons_eq, evEs_nil, kCons2_eq, kCall_eq, List.append_nil, e2]
        · rcases List.mem_append.mp ha with q | q
          · exact hg a q
          · rw [List.mem_singleton.mp q]; exact ⟨_, plain_ok K p ok⟩)
    rw [range_len] at hl
    exact ⟨acc, A', h2, F, hl, hg⟩
  have F2 : Fr d A (A1 ++ [.lst l0]) := F1.trans (Fr.app F1.dr _)
  have g2 := get_new A1 (.lst l0)
  have rA : A.length ≤ A1.length := F1.len
  -- inner
  obtain ⟨f1, A3, e3, f1a, f1b, F3⟩ := fac_is (k + 2) (A1 ++ [.lst l0]) d F2.dr
  have e3 : R (k + 4) "_law_factor" [.ref d] (A1 ++ [.lst l0]) = .ok (.int f1) A3 := e3
  obtain ⟨p1, A4, e4, ok1, F4⟩ := plain_is K k (way := 5) F3.dr (by omega)
  have e4 : R (k + 4) "_law_plain" [.ref d, .pt ks, .int 5] A3 = .ok p1.av A4 := e4
  obtain ⟨f2, A5, e5, f2a, f2b, F5⟩ := fac_is (k + 2) A4 d F4.dr
  have e5 : R (k + 4) "_law_factor" [.ref d] A4 = .ok (.int f2) A5 := e5
  obtain ⟨w, A6, e6, w0, w6, F6⟩ := draw_is (k + 3) A5 d 6 F5.dr (by omega) (by omega)
  have e6 : R (k + 4) "_law_draw" [.ref d, .int 6] A5 = .ok (.int w) A6 := e6
  obtain ⟨way, rfl⟩ : ∃ n : Nat, w = n := ⟨w.toNat, by omega⟩
  obtain ⟨p2, A7, e7, ok2, F7⟩ := plain_is K k (way := way) F6.dr (by omega)
  -- only
  obtain ⟨nm1, A8, e8, okn1, F8⟩ := names_is K (k + 1) A7 d F7.dr
  have e8 : R (k + 4) "_law_some_names" [.ref d, .pt ks] A7 = .ok (.pt nm1) A8 := e8
  have G1 : AOk ks M 4 (.tup [.str "only", .pt nm1, costT [(f1, p1.av, p1.val ks), (f2, p2.av, p2.val ks)]]) _ := only_ok K okn1 (L := [(f1, p1.av, p1.val ks), (f2, p2.av, p2.val ks)]) (m := 2) (fun e he => by
    rcases List.mem_cons.mp he with rfl | he
    · exact ⟨f1a, f1b⟩
    · rw [List.mem_singleton.mp he]; exact ⟨f2a, f2b⟩) (by simp) (fun e he => by
    rcases List.mem_cons.mp he with rfl | he
    · exact plain_ok K p1 ok1
    · rw [List.mem_singleton.mp he]; exact plain_ok K p2 ok2)
  have c1 : costT [(f1, p1.av, p1.val ks), (f2, p2.av, p2.val ks)] = .tup [.tup [.int f1, p1.av], .tup [.int f2, p2.av]] := rfl
  rw [c1] at G1
  have F28 := ((((F3.trans F4).trans F5).trans F6).trans F7).trans F8
  have g8 : A8[A1.length]? = some (.lst l0) := by rw [F28.old A1.length (by simp) (by omega)]; exact g2
  have ap1 := append_ref (x := .tup [.str "only", .pt nm1, .tup [.tup [.int f1, p1.av], .tup [.int f2, p2.av]]]) g8 (size_big (by omega))
  have G1' : Gd ks M 4 (.tup [.str "only", .pt nm1, .tup [.tup [.int f1, p1.av], .tup [.int f2, p2.av]]]) := ⟨_, G1⟩
  generalize ha6 : AV.tup [.str "only", .pt nm1, .tup [.tup [.int f1, p1.av], .tup [.int f2, p2.av]]] = a6 at ap1 G1'
  have F9 : Fr d A (A8.set A1.length (.lst (l0 ++ [a6]))) := (F2.trans F28).setNew hd rA _
  have g9 := get_set (o := .lst (l0 ++ [a6])) (get_lt g8)
  generalize hA9 : A8.set A1.length (.lst (l0 ++ [a6])) = A9 at ap1 F9 g9
  -- sum
  obtain ⟨f3, A10, e10, f3a, f3b, F10⟩ := fac_is (k + 2) A9 d F9.dr
  have e10 : R (k + 4) "_law_factor" [.ref d] A9 = .ok (.int f3) A10 := e10
  obtain ⟨v, A11, e11, v0, v6, F11⟩ := draw_is (k + 3) A10 d 6 F10.dr (by omega) (by omega)
  have e11 : R (k + 4) "_law_draw" [.ref d, .int 6] A10 = .ok (.int v) A11 := e11
  have g11 : A11[A1.length]? = some (.lst (l0 ++ [a6])) := by rw [F11.old A1.length (by have := F10.len; have := get_lt g9; omega) (by omega), F10.old A1.length (get_lt g9) (by omega)]; exact g9
  obtain ⟨x, hx, hxm⟩ := atI_mem (xs := l0) v0 (by omega)
  have ix1 : aIx (.ref A1.length) (.int v) A11 = some x := by
    rw [ix_ref g11]
    obtain ⟨n, rfl⟩ : ∃ n : Nat, v = n := ⟨v.toNat, by omega⟩
    refine atI_nat ?_
    rw [List.getElem?_append_left (by omega)]
    have : n < l0.length := by omega
    rw [List.getElem?_eq_getElem this]
    have h3 : atI l0 (n : Int) = some l0[n] := atI_nat (List.getElem?_eq_getElem this)
    rw [hx] at h3
    exact h3.symm
  obtain ⟨vx, gx⟩ := hg0 x hxm
  obtain ⟨f4, A12, e12, f4a, f4b, F12⟩ := fac_is (k + 2) A11 d F11.dr
  have e12 : R (k + 4) "_law_factor" [.ref d] A11 = .ok (.int f4) A12 := e12
  have g12 : A12[A1.length]? = some (.lst (l0 ++ [a6])) := by rw [F12.old A1.length (get_lt g11) (by omega)]; exact g11
  have ix2 : aIx (.ref A1.length) (.int 6) A12 = some a6 := by
    rw [ix_ref g12]
    refine atI_nat (j := 6) ?_
    rw [List.getElem?_append_right (by omega), hl0]; rfl
  obtain ⟨v6', g6⟩ := G1'
  have G2 : AOk ks M 6 (.tup [.str "sum", costT [(f3, x, vx), (f4, a6, v6')]]) _ := sum_ok (L := [(f3, x, vx), (f4, a6, v6')]) (m := 4) (fun e he => by
    rcases List.mem_cons.mp he with rfl | he
    · exact ⟨f3a, f3b⟩
    · rw [List.mem_singleton.mp he]; exact ⟨f4a, f4b⟩) (by simp) (fun e he => by
    rcases List.mem_cons.mp he with rfl | he
    · exact gx.up (by omega)
    · rw [List.mem_singleton.mp he]; exact g6)
  have c2 : costT [(f3, x, vx), (f4, a6, v6')] = .tup [.tup [.int f3, x], .tup [.int f4, a6]] := rfl
  rw [c2] at G2
  have ap2 := append_ref (x := .tup [.str "sum", .tup [.tup [.int f3, x], .tup [.int f4, a6]]]) g12 (size_big (by simp; omega))
  have G2' : Gd ks M 6 (.tup [.str "sum", .tup [.tup [.int f3, x], .tup [.int f4, a6]]]) := ⟨_, G2⟩
  generalize ha7 : AV.tup [.str "sum", .tup [.tup [.int f3, x], .tup [.int f4, a6]]] = a7 at ap2 G2'
  have F13 : Fr d A (A12.set A1.length (.lst (l0 ++ [a6] ++ [a7]))) := (((F9.trans F10).trans F11).trans F12).setNew hd rA _
  have g13 := get_set (o := .lst (l0 ++ [a6] ++ [a7])) (get_lt g12)
  generalize hA13 : A12.set A1.length (.lst (l0 ++ [a6] ++ [a7])) = A13 at ap2 F13 g13
  -- only again
  obtain ⟨nm2, A14, e14, okn2, F14⟩ := names_is K (k + 1) A13 d F13.dr
  have e14 : R (k + 4) "_law_some_names" [.ref d, .pt ks] A13 = .ok (.pt nm2) A14 := e14
  obtain ⟨f5, A15, e15, f5a, f5b, F15⟩ := fac_is (k + 2) A14 d F14.dr
  have e15 : R (k + 4) "_law_factor" [.ref d] A14 = .ok (.int f5) A15 := e15
  have g15 : A15[A1.length]? = some (.lst (l0 ++ [a6] ++ [a7])) := by rw [F15.old A1.length (by have := F14.len; have := get_lt g13; omega) (by omega), F14.old A1.length (get_lt g13) (by omega)]; exact g13
  have ix3 : aIx (.ref A1.length) (.int 7) A15 = some a7 := by
    rw [ix_ref g15]
    refine atI_nat (j := 7) ?_
    rw [List.getElem?_append_right (by simp [hl0])]
    simp [hl0]
  obtain ⟨v7, g7⟩ := G2'
  have G3 : AOk ks M 8 (.tup [.str "only", .pt nm2, costT [(f5, a7, v7)]]) _ := only_ok K okn2 (L := [(f5, a7, v7)]) (m := 6) (fun e he => by rw [List.mem_singleton.mp he]; exact ⟨f5a, f5b⟩) (by simp) (fun e he => by rw [List.mem_singleton.mp he]; exact g7)
  have c3 : costT [(f5, a7, v7)] = .tup [.tup [.int f5, a7]] := rfl
  rw [c3] at G3
  have ap3 := append_ref (x := .tup [.str "only", .pt nm2, .tup [.tup [.int f5, a7]]]) g15 (size_big (by simp; omega))
  have G3' : Gd ks M 8 (.tup [.str "only", .pt nm2, .tup [.tup [.int f5, a7]]]) := ⟨_, G3⟩
  have F16 : Fr d A (A15.set A1.length (.lst (l0 ++ [a6] ++ [a7] ++ [.tup [.str "only", .pt nm2, .tup [.tup [.int f5, a7]]]]))) := ((F13.trans F14).trans F15).setNew hd rA _
  have g16 := get_set (o := .lst (l0 ++ [a6] ++ [a7] ++ [.tup [.str "only", .pt nm2, .tup [.tup [.int f5, a7]]]])) (get_lt g15)
  refine ⟨A1.length, _, _, ?_, F16, rA, g16, by simp [hl0], fun a ha => ?_⟩
  · have mt : ∀ B xs, B[A1.length]? = some (.lst xs) → mthTy .append (.ref A1.length) B = true := fun B xs h => mthTy_ref h
    have e7' : R (k + 4) "_law_plain" [.ref d, .pt ks, .int way] A6 = .ok p2.av A7 := e7
    have q1 := mt _ _ g9
    have q2 := mt _ _ g13
    have mt0 : mthTy .append (.ref A1.length) A7 = true := by
      have F27 := (((F3.trans F4).trans F5).trans F6).trans F7
      have g7' : A7[A1.length]? = some (.lst l0) := by rw [F27.old A1.length (by simp) (by omega)]; exact g2
      exact mt _ _ g7'
    simp only [b__law_atoms, evSs_cons, evS_asg, evE_new, e1, bind_ok, kNew_eq, out_ok, kAsg_eq, evTg_name, List.set_cons_zero, List.set_cons_succ, seq_next, kSs_eq, evE_tup, evEs_cons, evE_call, evE_var, evE_lit, List.getElem?_cons_zero, List.getElem?_cons_succ, kCons_eq, evEs_nil, kCons2_eq, kCall_eq, List.append_nil, e3, e4, kTup_eq, List.length_cons, List.length_nil, Nat.zero_add, if_pos z2, e5, e6, e7', if_pos z1, if_pos z3, evS_expr, evE_mth, kMth_eq, mt0, if_true, e8, ha6, ap1, kExpr_eq, q1, e10, evE_ix, e11, kIx_eq, kIx2_eq, ix1, e12, ix2, ha7, ap2, q2, e14, e15, ix3, ap3, evS_ret, seq_ret, fin_ret]
  · rw [List.mem_append, List.mem_append, List.mem_append, List.mem_singleton, List.mem_singleton, List.mem_singleton] at ha
    rcases ha with ((ha | rfl) | rfl) | rfl
    · exact (hg0 a ha).up (by omega)
    · exact Gd.up ⟨_, g6⟩ (by omega)
    · exact Gd.up ⟨_, g7⟩ (by omega)
    · exact G3'
end
end Law


set_option Elab.async false
set_option linter.all false
set_option maxRecDepth 100000
set_option maxHeartbeats 8000000
namespace Law
open PySem L2 Ev Sh
theorem pool_ev (k : Nat) (A : AH) : R (k + 1) "_law_pool" [] A = .ok (.ref A.length) (A ++ [.lst (poolL.map .str)]) := by
  rw [R, run_eq (e := e__law_pool) rfl A rfl]
  obtain ⟨t1, t2, t3⟩ := txt_len
  have s1 : txt1.length + txt2.length ≤ sizeLine := Nat.le_of_lt (size_big (by omega))
  have s2 : (txt1 ++ txt2).length + 2 ≤ sizeLine := Nat.le_of_lt (size_big (by omega))
  have ad : aBin .add (.str txt1) (.str txt2) A = .ok (.str (txt1 ++ txt2)) A := by simp only [aBin, if_pos s1]
  have sp : aMth .split1 (.str (txt1 ++ txt2)) [.str " "] A = .ok (.ref A.length) (A ++ [.lst (poolL.map .str)]) := by
    simp only [aMth, if_pos (And.intro t3 s2)]; rfl
  have mt : mthTy .split1 (.str (txt1 ++ txt2)) A = true := rfl
  show (evSs (C k) [.asg (.name 0) (.lit (.str txt1)), .asg (.name 0) (.bin .add (.var 0) (.lit (.str txt2))), .ret (.mth .split1 (.var 0) [(.lit (.str " "))])] [none] A).fin = _
  simp only [evSs_cons, evS_asg, evE_lit, out_ok, kAsg_eq, evTg_name, List.set_cons_zero, seq_next, kSs_eq, evE_bin, evE_var, List.getElem?_cons_zero, bind_ok, kBin_eq, ad, evS_ret, evE_mth, kMth_eq, mt, if_true, evEs_cons, kCons_eq, evEs_nil, kCons2_eq, sp, seq_ret, fin_ret]
theorem drSet {A : AH} {d n : Nat} {o : AO} (h : Dr A d) (hn : d < n) : Dr (A.set n o) d := by
  obtain ⟨s, cells, p, b, t, u, h1, h2, h3, h4⟩ := h
  exact ⟨s, cells, p, b, t, u, by rw [List.getElem?_set_ne (by omega)]; exact h1, by rw [List.getElem?_set_ne (by omega)]; exact h2, h3, h4⟩
theorem erase_map {α β : Type} (f : α → β) : ∀ (l : List α) (i : Nat), (l.map f).eraseIdx i = (l.eraseIdx i).map f
  | [], _ => rfl
  | _ :: _, 0 => rfl
  | x :: r, i + 1 => by
    show f x :: (r.map f).eraseIdx i = f x :: (r.eraseIdx i).map f
    rw [erase_map f r i]
theorem pop_ok (k : Nat) {A : AH} {d n : Nat} {zs : List Str} (h : Dr A d) (hn : d < n) (g : A[n]? = some (.lst (zs.map .str))) (h0 : zs ≠ []) (hz : zs.length ≤ 1000) : ∃ z zs' A', R (k + 2) "_law_pop" [.ref d, .ref n] A = .ok (.str z) A' ∧ Dr A' d ∧ A'[n]? = some (.lst (zs'.map .str)) ∧ (z :: zs').Perm zs := by
  rw [R, run_eq (e := e__law_pop) rfl A rfl]
  show ∃ z zs' A', (evSs (C (k + 1)) b__law_pop [some (.ref d), some (.ref n)] A).fin = _ ∧ _
  have hl : 0 < zs.length := List.length_pos_iff.mpr h0
  obtain ⟨v, A2, e, p1, p2, F2⟩ := draw_is k A d zs.length h (by omega) (by omega)
  have e : R (k + 1) "_law_draw" [.ref d, .int zs.length] A = .ok (.int v) A2 := e
  have g2 : A2[n]? = some (.lst (zs.map .str)) := by rw [F2.old n (get_lt g) (by omega)]; exact g
  have sx := seqIndex_of (k := v) (n := (zs.map AV.str).length) p1 (by rw [List.length_map]; exact p2)
  have vl : v.toNat < zs.length := by omega
  have vl' : v.toNat < (zs.map AV.str).length := by rw [List.length_map]; exact vl
  have pop : aMth .pop1 (.ref n) [.int v] A2 = .ok (.str zs[v.toNat]) (A2.set n (.lst ((zs.eraseIdx v.toNat).map .str))) := by
    have c1 : -(2 ^ 63) ≤ v ∧ v < 2 ^ 63 := by omega
    have er : (zs.map AV.str).eraseIdx v.toNat = (zs.eraseIdx v.toNat).map .str := erase_map _ _ _
    simp only [aMth, g2, if_pos c1, sx, List.getElem?_eq_getElem vl', er, List.getElem_map]
  have l1 : aBif .len [.ref n] A = .ok (.int (zs.length : Int)) A := by
    have := len_ref g
    rw [List.length_map] at this; exact this
  have mt : mthTy .pop1 (.ref n) A = true := by simp only [mthTy, g]; rfl
  refine ⟨zs[v.toNat], zs.eraseIdx v.toNat, _, ?_, drSet F2.dr hn, get_set (get_lt g2), erase_perm vl⟩
  simp only [b__law_pop, evSs_cons, evS_ret, evE_mth, evE_var, List.getElem?_cons_zero, List.getElem?_cons_succ, bind_ok, kMth_eq, mt, if_true, evEs_cons, evE_call, evE_bif, kCons_eq, evEs_nil, kCons2_eq, l1, kCall_eq, List.append_nil, e, pop, out_ok, seq_ret, fin_ret]
/-- numbers drawn below many; their number may be drawn itself -/
theorem ldraws2 (c : Cfg) (D : drawIs c) {A0 A : AH} {d n : Nat} {many : Int} {e : E} {σ : Sl} {i vd vm : Nat} (h : Dr A d) (hn : n ≤ 1000) (h0 : 0 < many) (h1 : many < 2 ^ 64) (he : evE c e σ A0 = .ok (.int n) A) (hd : σ[vd]? = some (some (.ref d))) (hm : σ[vm]? = some (some (.int many))) (nd : vd ≠ i) (nm : vm ≠ i) :
    ∃ (row : List Int) (A' : AH), evL c (.comp [i] (.range1 e) (.name i) (.lit (.bl true)) (.call "_law_draw" [(.var vd), (.var vm)] [])) σ A0 = .ok (row.map .int) A' ∧ Fr d A A' ∧ row.length = n ∧ ∀ x ∈ row, 0 ≤ x ∧ x < many := by
  rw [compN (n := n) (A' := A) he (by omega)]
  obtain ⟨acc, A', h2, F, row, rfl, h3, h4⟩ := comp_run (chk := (Itm.val ((List.range n).map fun (k : Nat) => AV.int k)).chk) (tg := fun x A => evTg c (.name i) x (wipeS σ [i]) A) (q := fun σ A => (evE c (.lit (.bl true)) σ A).bind tru)
    (elt := fun σ A => evE c (.call "_law_draw" [(.var vd), (.var vm)] []) σ A) (xs := (List.range n).map fun (k : Nat) => AV.int k) (A := A) (fun i acc A' => Fr d A A' ∧ ∃ row : List Int, acc = row.map .int ∧ row.length = i ∧ ∀ x ∈ row, 0 ≤ x ∧ x < many) ⟨Fr.refl h, [], rfl, rfl, fun x hx => (by cases hx)⟩
    (by rw [range_len]; exact Nat.le_of_lt (size_big (by omega))) (fun i acc A' _ ⟨_, r, e, hl, _⟩ => ⟨rfl, by rw [e, List.length_map, hl]; exact Nat.le_refl _⟩) (fun j x acc A1 hx ⟨F, r, e, hl, hr⟩ => by
      obtain ⟨v, A2, e1, p1, p2, F2⟩ := D A1 d many F.dr h0 h1
      refine ⟨_, _, true, A1, rfl, rfl, ?_⟩
      rw [if_pos rfl]
      refine ⟨.int v, A2, ?_, F.trans F2, r ++ [v], by rw [e]; simp, by simp [hl], fun y hy => ?_⟩
      · have q1 : ((wipeS σ [i]).set i (some x))[vd]? = some (some (.ref d)) := by
          rw [List.getElem?_set_ne (Ne.symm nd)]; show (σ.set i none)[vd]? = _; rw [List.getElem?_set_ne (Ne.symm nd)]; exact hd
        have q2 : ((wipeS σ [i]).set i (some x))[vm]? = some (some (.int many)) := by
          rw [List.getElem?_set_ne (Ne.symm nm)]; show (σ.set i none)[vm]? = _; rw [List.getElem?_set_ne (Ne.symm nm)]; exact hm
        simp only [evE_call, evEs_cons, evE_var, q1, q2, bind_ok, kCons_eq, evEs_nil, kCons2_eq, kCall_eq, List.append_nil, e1]
      · rcases List.mem_append.mp hy with hy | hy
        · exact hr y hy
        · rw [List.mem_singleton.mp hy]; exact ⟨p1, p2⟩)
  rw [range_len] at h3
  exact ⟨row, A', h2, F, h3, h4⟩
/-- begin, pool, kinds -/
theorem segA (ns : List Int) (hl : ns.length ≤ 63) : ∃ (ks : List Str) (M : Nat) (n2 : Nat) (A' : AH), evSs (C 19) (b_law.take 4) [some (.fl (ns.map .int)), none, none, none, none, none, none, none, none, none, none] [] =
    .next [some (.fl (ns.map .int)), some (.ref 1), some (.ref n2), some (.pt ks), none, some (.int M), none, none, none, none, none] A' ∧ KsOk ks M ∧ Dr A' 1 := by
  obtain ⟨A1, e1, D1⟩ := begin_ev (C 18) (A := []) (ns := ns) (Nat.le_of_lt (size_big (by omega)))
  have e1 : R 19 "_law_begin" [.fl (ns.map .int)] [] = .ok (.ref 1) A1 := by
    rw [R, run_eq (e := e__law_begin) rfl [] rfl]; exact e1
  have D1 : Dr A1 1 := D1
  have e2 := pool_ev 18 A1
  have e2 : R 19 "_law_pool" [] A1 = .ok (.ref A1.length) (A1 ++ [.lst (poolL.map .str)]) := e2
  have lt1 := D1.lt
  have g2 := get_new A1 (.lst (poolL.map AV.str))
  obtain ⟨pn, pok, pe, pl, pl2⟩ := pool_ok
  obtain ⟨v, A3, e3, p3, q3, F3⟩ := draw_is 18 (A1 ++ [.lst (poolL.map .str)]) 1 6 (D1.app _) (by omega) (by omega)
  have e3 : R 19 "_law_draw" [.ref 1, .int 6] (A1 ++ [.lst (poolL.map .str)]) = .ok (.int v) A3 := e3
  obtain ⟨M, hM⟩ : ∃ M : Nat, 1 + v = M := ⟨(1 + v).toNat, by omega⟩
  have g3 : A3[A1.length]? = some (.lst (poolL.map .str)) := by rw [F3.old A1.length (by simp) (by omega)]; exact g2
  obtain ⟨ks, A4, e4, D4, hk, hp⟩ : ∃ (ks : List Str) (A4 : AH), evL (C 19) (.comp [4] (.range1 (.bin .add (.lit (.int 1)) (.call "_law_draw" [(.var 1), (.lit (.int 6))] []))) (.name 4) (.lit (.bl true)) (.call "_law_pop" [(.var 1), (.var 2)] [])) [some (.fl (ns.map .int)), some (.ref 1), some (.ref A1.length), none, none, none, none, none, none, none, none] (A1 ++ [.lst (poolL.map .str)]) = .ok (ks.map .str) A4 ∧ Dr A4 1 ∧ ks.length = M ∧ ∃ zs : List Str, (zs ++ ks).Perm poolL := by
    rw [compN (n := M) (A' := A3) (by simp [e3, hM]) (by omega)]
    obtain ⟨acc, A', h2, D, ks, zs, rfl, hk, hg, hp⟩ := comp_run (chk := (Itm.val ((List.range M).map fun (k : Nat) => AV.int k)).chk) (tg := fun x A => evTg (C 19) (.name 4) x (wipeS [some (.fl (ns.map .int)), some (.ref 1), some (.ref A1.length), none, none, none, none, none, none, none, none] [4]) A) (q := fun σ A => (evE (C 19) (.lit (.bl true)) σ A).bind tru)
      (elt := fun σ A => evE (C 19) (.call "_law_pop" [(.var 1), (.var 2)] []) σ A) (xs := (List.range M).map fun (k : Nat) => AV.int k) (A := A3) (fun i acc A' => Dr A' 1 ∧ ∃ ks zs : List Str, acc = ks.map .str ∧ ks.length = i ∧ A'[A1.length]? = some (.lst (zs.map .str)) ∧ (zs ++ ks).Perm poolL) ⟨F3.dr, [], poolL, rfl, rfl, g3, by simp⟩
      (by rw [range_len]; exact Nat.le_of_lt (size_big (by omega))) (fun i acc A' _ ⟨_, ks, zs, e, hl, _⟩ => ⟨rfl, by rw [e, List.length_map, hl]; exact Nat.le_refl _⟩) (fun j x acc B hx ⟨D, ks, zs, e, hl, hg, hp⟩ => by
        obtain ⟨hj, rfl⟩ := range_get hx
        have pl' := hp.length_eq
        rw [List.length_append] at pl'
        obtain ⟨z, zs', B2, e5, D5, g5, p5⟩ := pop_ok 17 (A := B) (d := 1) (n := A1.length) (zs := zs) D lt1 hg (fun z => by rw [z] at pl'; simp at pl'; omega) (by omega)
        have e5 : R 19 "_law_pop" [.ref 1, .ref A1.length] B = .ok (.str z) B2 := e5
        refine ⟨_, _, true, B, rfl, rfl, ?_⟩
        rw [if_pos rfl]
        refine ⟨.str z, B2, ?_, D5, ks ++ [z], zs', by rw [e]; simp, by simp [hl], g5, ?_⟩
        · simp only [wipeS, evE_call, evEs_cons, evE_var, List.getElem?_cons_zero, List.getElem?_cons_succ, List.set_cons_zero, List.set_cons_succ, bind_ok, kCons_eq, evEs_nil, kCons2_eq, kCall_eq, List.append_nil, e5]
        · refine List.Perm.trans ?_ hp
          rw [← List.append_assoc]
          refine List.perm_append_comm.trans ?_
          rw [List.singleton_append, ← List.cons_append]
          exact List.Perm.append_right ks p5)
    rw [range_len] at hk
    exact ⟨ks, A', h2, D, hk, zs, hp⟩
  obtain ⟨zs, hp⟩ := hp
  have nd := (hp.nodup_iff.mpr pn)
  have sub : ∀ z ∈ ks, z ∈ poolL := fun z hz => hp.subset (List.mem_append_right _ hz)
  have K : KsOk ks M := ⟨(List.nodup_append.mp nd).2.1, hk, by omega, by omega, fun z hz => List.all_eq_true.mp pok z (sub z hz), fun z => pe (sub _ z)⟩
  refine ⟨ks, M, A1.length, A4, ?_, K, D4⟩
  have mk := mkT_strs K.ne
  have ln : aBif .len [.pt ks] A4 = .ok (.int (M : Int)) A4 := by
    show Res.ok (AV.int ((ks.map AV.str).length : Nat)) A4 = _
    rw [List.length_map, hk]
  simp only [b_law, List.take_succ_cons, List.take_zero, evSs_cons, evS_asg, evE_call, evEs_cons, evE_var, List.getElem?_cons_zero, List.getElem?_cons_succ, List.set_cons_zero, List.set_cons_succ, bind_ok, kCons_eq, evEs_nil, kCons2_eq, kCall_eq, List.append_nil, e1, e2, out_ok, kAsg_eq, evTg_name, seq_next, kSs_eq, evE_lf, e4, aLF, mk, evE_bif, ln, evSs_nil]
abbrev σA (ns : List Int) (n2 : Nat) (ks : List Str) (M : Nat) (o6 : Option AV) : Sl := [some (.fl (ns.map .int)), some (.ref 1), some (.ref n2), some (.pt ks), none, some (.int M), o6, none, none, none, none]
theorem flat_rep {row : List Int} (k : Nat) : (List.replicate k (row.map AV.int)).flatten = ((List.replicate k row).flatten).map .int := by
  induction k with
  | zero => rfl
  | succ k ih => rw [List.replicate_succ, List.replicate_succ, List.flatten_cons, List.flatten_cons, ih, List.map_append]
theorem rep_len {α : Type} (l : List α) : ∀ k : Nat, (List.replicate k l).flatten.length = k * l.length
  | 0 => by simp
  | k + 1 => by rw [List.replicate_succ, List.flatten_cons, List.length_append, rep_len l k, Nat.succ_mul]; omega
/-- the row -/
theorem segB {ns : List Int} {n2 : Nat} {ks : List Str} {M : Nat} (K : KsOk ks M) {A : AH} (D : Dr A 1) : ∃ (row : List Int) (A' : AH), evSs (C 19) ((b_law.drop 4).take 3) (σA ns n2 ks M none) A = .next (σA ns n2 ks M (some (rowI row))) A' ∧ inB row M ∧ row.length ≤ 10000 ∧ Fr 1 A A' := by
  have m0 := K.m0
  have m6 := K.m6
  obtain ⟨v, A1, e1, p1, q1, F1⟩ := draw_is 18 A 1 13 D (by omega) (by omega)
  have e1 : R 19 "_law_draw" [.ref 1, .int 13] A = .ok (.int v) A1 := e1
  obtain ⟨n, rfl⟩ : ∃ n : Nat, v = n := ⟨v.toNat, by omega⟩
  obtain ⟨r1, A2, e2, F2, l2, b2⟩ := ldraws2 (C 19) (draw_is 18) (A0 := A) (A := A1) (d := 1) (n := n) (many := M) (e := .call "_law_draw" [(.var 1), (.lit (.int 13))] []) (σ := σA ns n2 ks M none) (i := 4) (vd := 1) (vm := 5) F1.dr (by omega) (by omega) (by omega) (by simp [σA, e1]) rfl rfl (by decide) (by decide)
  obtain ⟨b, A3, e3, F3⟩ := rare_is 17 A2 1 9 F2.dr (by omega) (by omega)
  have e3 : R 19 "_law_rare" [.ref 1, .int 9] A2 = .ok (.bl b) A3 := e3
  have st1 : evSs (C 19) ((b_law.drop 4).take 1) (σA ns n2 ks M none) A = .next (σA ns n2 ks M (some (rowI r1))) A2 := by
    have tf : aLF .tups (r1.map AV.int) A2 = .ok (rowI r1) A2 := by simp only [aLF, mkT_ints]; rfl
    show evSs (C 19) [.asg (.name 6) (.lf .tups _)] _ A = _
    simp only [evSs_cons, evS_asg, evE_lf, e2, bind_ok, tf, out_ok, kAsg_eq, evTg_name, List.set_cons_zero, List.set_cons_succ, seq_next, kSs_eq, evSs_nil]
  obtain ⟨r2, A4, st2, F4, l4, b4⟩ : ∃ (r2 : List Int) (A4 : AH), evSs (C 19) ((b_law.drop 5).take 1) (σA ns n2 ks M (some (rowI r1))) A2 = .next (σA ns n2 ks M (some (rowI r2))) A4 ∧ Fr 1 A2 A4 ∧ r2.length ≤ 60 ∧ inB r2 M := by
    cases b with
    | false => exact ⟨r1, A3, by simp [b_law, σA, e3], F3, by omega, b2⟩
    | true =>
      obtain ⟨r2, A4, e4, F4, l4, b4⟩ := ldraws2 (C 19) (draw_is 18) (A0 := A3) (A := A3) (d := 1) (n := 60) (many := M) (e := .lit (.int 60)) (σ := σA ns n2 ks M (some (rowI r1))) (i := 4) (vd := 1) (vm := 5) F3.dr (by omega) (by omega) (by omega) rfl rfl rfl (by decide) (by decide)
      have tf : aLF .tups (r2.map AV.int) A4 = .ok (rowI r2) A4 := by simp only [aLF, mkT_ints]; rfl
      refine ⟨r2, A4, ?_, F3.trans F4, by omega, b4⟩
      generalize rowI r2 = w at tf ⊢
      simp [b_law, e3, e4, tf]
  obtain ⟨b', A5, e5, F5⟩ := rare_is 17 A4 1 13 F4.dr (by omega) (by omega)
  have e5 : R 19 "_law_rare" [.ref 1, .int 13] A4 = .ok (.bl b') A5 := e5
  obtain ⟨r3, A6, st3, F6, l6, b6⟩ : ∃ (r3 : List Int) (A6 : AH), evSs (C 19) ((b_law.drop 6).take 1) (σA ns n2 ks M (some (rowI r2))) A4 = .next (σA ns n2 ks M (some (rowI r3))) A6 ∧ Fr 1 A4 A6 ∧ r3.length ≤ 10000 ∧ inB r3 M := by
    cases b' with
    | false => exact ⟨r2, A5, by simp [b_law, σA, e5], F5, by omega, b4⟩
    | true =>
      obtain ⟨r3, A6, e6, F6, l6, b6⟩ := ldraws2 (C 19) (draw_is 18) (A0 := A5) (A := A5) (d := 1) (n := 40) (many := M) (e := .lit (.int 40)) (σ := σA ns n2 ks M (some (rowI r2))) (i := 4) (vd := 1) (vm := 5) F5.dr (by omega) (by omega) (by omega) rfl rfl rfl (by decide) (by decide)
      have tf : aLF .tups (r3.map AV.int) A6 = .ok (rowI r3) A6 := by simp only [aLF, mkT_ints]; rfl
      have F7 : Fr 1 A6 (A6 ++ [.lst [.int 5, .int 25, .int 250]]) := Fr.app F6.dr _
      obtain ⟨x, A8, e8, hx, F8⟩ := pick_is 17 (A6 ++ [.lst [.int 5, .int 25, .int 250]]) 1 (.ref A6.length) [.int 5, .int 25, .int 250] F7.dr (seq_ref (get_new _ _)) (fun z => by injection z with z; have := F6.dr.lt; omega) (by simp) (by simp)
      have e8 : R 19 "_law_pick" [.ref 1, .ref A6.length] (A6 ++ [.lst [.int 5, .int 25, .int 250]]) = .ok x A8 := e8
      obtain ⟨q, rfl, q2, q3⟩ : ∃ q : Nat, x = .int q ∧ 2 ≤ q ∧ q ≤ 250 := by
        simp only [List.mem_cons, List.not_mem_nil, or_false] at hx
        rcases hx with rfl | rfl | rfl
        · exact ⟨5, rfl, by omega, by omega⟩
        · exact ⟨25, rfl, by omega, by omega⟩
        · exact ⟨250, rfl, by omega, by omega⟩
      have mu : aBin .mul (rowI r3) (.int (q : Int)) A8 = .ok (rowI (List.replicate q r3).flatten) A8 := by
        have c1 : r3.map AV.int ≠ [] ∧ (2 : Int) ≤ (q : Int) ∧ (q : Int) ≤ 1000 ∧ (r3.map AV.int).length ≤ 1000 := ⟨fun z => by rw [List.map_eq_nil_iff.mp z] at l6; simp at l6, by omega, by omega, by rw [List.length_map]; omega⟩
        show (if r3.map AV.int ≠ [] ∧ (2 : Int) ≤ (q : Int) ∧ (q : Int) ≤ 1000 ∧ (r3.map AV.int).length ≤ 1000 then Res.ok (AV.tup (List.replicate (q : Int).toNat (r3.map AV.int)).flatten) A8 else .bad) = _
        rw [if_pos c1, Int.toNat_natCast, flat_rep]; rfl
      have z3 : 3 ≤ sizeLine := Nat.le_of_lt (size_big (by omega))
      refine ⟨(List.replicate q r3).flatten, A8, ?_, ((F5.trans F6).trans F7).trans F8, ?_, fun y hy => ?_⟩
      · generalize rowI (List.replicate q r3).flatten = w2 at mu ⊢
        generalize rowI r3 = w at tf mu ⊢
        simp [b_law, e5, e6, tf, z3, e8, mu]
      · rw [rep_len]
        have : q * r3.length ≤ 250 * 40 := Nat.mul_le_mul q3 (by omega)
        omega
      · obtain ⟨l, hl, hy⟩ := List.mem_flatten.mp hy
        rw [(List.mem_replicate.mp hl).2] at hy
        exact b6 y hy
  refine ⟨r3, A6, ?_, b6, l6, ((F1.trans F2).trans F4).trans F6⟩
  have es : (b_law.drop 4).take 3 = (b_law.drop 4).take 1 ++ ((b_law.drop 5).take 1 ++ (b_law.drop 6).take 1) := rfl
  rw [es, evSs_append, st1, seq_next, evSs_append, st2, seq_next, st3]
/-- each atom, one by one -/
theorem segC {ns : List Int} {n2 r : Nat} {ks : List Str} {M : Nat} (K : KsOk ks M) {row : List Int} (hr : inB row M) (hz : row.length ≤ 10000) {l : List AV} (hl : l.length = 9) (hg : ∀ a ∈ l, Gd ks M 8 a) {A : AH} (gA : A[r]? = some (.lst l)) :
    ∃ o8 A', evS (C 19) (.for_ (.name 8) (.v (.var 7)) [.if_ (.not (.call "_law_says" [(.var 3), (.tup [(.tup [(.lit (.int 1)), (.var 8)])]), (.var 6)] [])) [.ret (.lit (.bl false))] []])
      [some (.fl (ns.map .int)), some (.ref 1), some (.ref n2), some (.pt ks), none, some (.int M), some (rowI row), some (.ref r), none, none, none] A = .next [some (.fl (ns.map .int)), some (.ref 1), some (.ref n2), some (.pt ks), none, some (.int M), some (rowI row), some (.ref r), o8, none, none] A' ∧ Ex A A' := by
  have z1 : 1 ≤ sizeLine := Nat.le_of_lt (size_big (by omega))
  have z2 : 2 ≤ sizeLine := two_le'
  rw [forO (n := r) (A' := A) rfl gA]
  obtain ⟨σ', A', q1, q2, o8, rfl⟩ := for_end (chk := (Itm.obj r l).chk) (tg := fun x σ A => evTg (C 19) (.name 8) x σ A) (body := fun σ A => evSs (C 19) [.if_ (.not (.call "_law_says" [(.var 3), (.tup [(.tup [(.lit (.int 1)), (.var 8)])]), (.var 6)] [])) [.ret (.lit (.bl false))] []] σ A) (xs := l)
    (σ := [some (.fl (ns.map .int)), some (.ref 1), some (.ref n2), some (.pt ks), none, some (.int M), some (rowI row), some (.ref r), none, none, none]) (A := A)
    (fun i σ A' => Ex A A' ∧ ∃ o8, σ = [some (.fl (ns.map .int)), some (.ref 1), some (.ref n2), some (.pt ks), none, some (.int M), some (rowI row), some (.ref r), o8, none, none]) ⟨Ex.refl A, none, rfl⟩ (fun i σ A' _ h => chk_obj (h.1.get gA)) (fun i x σ A1 hx ⟨ex, o8, e⟩ => by
      subst e
      obtain ⟨v, g⟩ := hg x (List.mem_of_getElem? hx)
      obtain ⟨A2, e2, x2⟩ := says_ok (L := [(1, x, v)]) (m := 8) (fun e he => by rw [List.mem_singleton.mp he]; exact ⟨by show (-10000 : Int) ≤ 1; omega, by show (1 : Int) ≤ 10000; omega⟩) (by simp) (fun e he => by rw [List.mem_singleton.mp he]; exact g) 9 A1 hr hz
      have e2 : R 19 "_law_says" [.pt ks, .tup [.tup [.int 1, x]], rowI row] A1 = .ok (.bl true) A2 := e2
      refine ⟨_, _, rfl, [some (.fl (ns.map .int)), some (.ref 1), some (.ref n2), some (.pt ks), none, some (.int M), some (rowI row), some (.ref r), some x, none, none], A2, ?_, ex.trans x2, _, rfl⟩
      generalize rowI row = w at e2
      simp [z1, z2, e2])
  exact ⟨o8, A', q1, q2⟩
/-- the whole cost -/
theorem segD {ns : List Int} {n2 r : Nat} {ks : List Str} {M : Nat} {w : AV} {l : List AV} (hl : l.length = 9) (hg : ∀ a ∈ l, Gd ks M 8 a) {A : AH} (D : Dr A 1) (gA : A[r]? = some (.lst l)) (hr1 : 1 < r) (o8 : Option AV) :
    ∃ (L : List CE) (A' : AH), evS (C 19) (.asg (.name 9) (.lf .tups (.comp [8] (.v (.call "_law_shuffled" [(.var 1), (.var 7)] [])) (.name 8) (.lit (.bl true)) (.tup [(.call "_law_factor" [(.var 1)] []), (.var 8)]))))
      [some (.fl (ns.map .int)), some (.ref 1), some (.ref n2), some (.pt ks), none, some (.int M), some w, some (.ref r), o8, none, none] A = .next [some (.fl (ns.map .int)), some (.ref 1), some (.ref n2), some (.pt ks), none, some (.int M), some w, some (.ref r), o8, some (costT L), none] A' ∧ ceOk L ∧ L.length = 9 ∧ ∀ e ∈ L, AOk ks M 8 e.2.1 e.2.2 := by
  have z2 : 2 ≤ sizeLine := two_le'
  obtain ⟨A1, n, ys, e1, F1, hn, g1, hp⟩ := shuf_is 17 A 1 (.ref r) l D (seq_ref gA) (by omega)
  have e1 : R 19 "_law_shuffled" [.ref 1, .ref r] A = .ok (.ref n) A1 := e1
  have yl := hp.length_eq
  have n1 : n ≠ 1 := by have := get_lt gA; omega
  have cm : ∃ (L : List CE) (A' : AH), evL (C 19) (.comp [8] (.v (.call "_law_shuffled" [(.var 1), (.var 7)] [])) (.name 8) (.lit (.bl true)) (.tup [(.call "_law_factor" [(.var 1)] []), (.var 8)])) [some (.fl (ns.map .int)), some (.ref 1), some (.ref n2), some (.pt ks), none, some (.int M), some w, some (.ref r), o8, none, none] A = .ok (L.map ceT) A' ∧ ceOk L ∧ L.length = ys.length ∧ ∀ e ∈ L, AOk ks M 8 e.2.1 e.2.2 := by
    rw [compO (n := n) (A' := A1) (by simp [e1]) g1]
    obtain ⟨acc, A', h2, F, L, rfl, h3, h4, h5⟩ := comp_run (chk := (Itm.obj n ys).chk) (tg := fun x A => evTg (C 19) (.name 8) x (wipeS [some (.fl (ns.map .int)), some (.ref 1), some (.ref n2), some (.pt ks), none, some (.int M), some w, some (.ref r), o8, none, none] [8]) A) (q := fun σ A => (evE (C 19) (.lit (.bl true)) σ A).bind tru)
      (elt := fun σ A => evE (C 19) (.tup [(.call "_law_factor" [(.var 1)] []), (.var 8)]) σ A) (xs := ys) (A := A1) (fun i acc A' => Fr 1 A1 A' ∧ ∃ L : List CE, acc = L.map ceT ∧ ceOk L ∧ L.length = i ∧ ∀ e ∈ L, AOk ks M 8 e.2.1 e.2.2) ⟨Fr.refl F1.dr, [], rfl, fun e he => (by cases he), rfl, fun e he => (by cases he)⟩
      (Nat.le_of_lt (size_big (by omega))) (fun i acc A' _ ⟨F, L, e, _, hl, _⟩ => ⟨chk_obj (by rw [F.old n (get_lt g1) n1]; exact g1), by rw [e, List.length_map, hl]; exact Nat.le_refl _⟩) (fun j x acc B hx ⟨F, L, e, h3, h4, h5⟩ => by
        obtain ⟨v, g⟩ := hg x (hp.subset (List.mem_of_getElem? hx))
        obtain ⟨f, B2, e2, fa, fb, F2⟩ := fac_is 17 B 1 F.dr
        have e2 : R 19 "_law_factor" [.ref 1] B = .ok (.int f) B2 := e2
        refine ⟨_, _, true, B, rfl, rfl, ?_⟩
        rw [if_pos rfl]
        refine ⟨ceT (f, x, v), B2, ?_, F.trans F2, L ++ [(f, x, v)], by rw [e]; simp, fun q hq => ?_, by simp [h4], fun q hq => ?_⟩
        · simp only [wipeS, evE_tup, evEs_cons, evE_call, evE_var, List.getElem?_cons_zero, List.getElem?_cons_succ, List.set_cons_zero, List.set_cons_succ, bind_ok, kCons_eq, evEs_nil, kCons2_eq, kCall_eq, List.append_nil, e2, kTup_eq, List.length_cons, List.length_nil, Nat.zero_add, if_pos z2]
          rfl
        · rcases List.mem_append.mp hq with q' | q'
          · exact h3 q q'
          · rw [List.mem_singleton.mp q']; exact ⟨fa, fb⟩
        · rcases List.mem_append.mp hq with q' | q'
          · exact h5 q q'
          · rw [List.mem_singleton.mp q']; exact g)
    exact ⟨L, A', h2, h3, h4, h5⟩
  obtain ⟨L, A', e2, h3, h4, h5⟩ := cm
  have mk : mkT (L.map ceT) = costT L := by
    have := mkT_tups (L.map fun e => [.int e.1, e.2.1])
    rw [List.map_map] at this
    exact this
  have tf : aLF .tups (L.map ceT) A' = .ok (costT L) A' := by simp only [aLF, mk]
  refine ⟨L, A', ?_, h3, by omega, h5⟩
  simp only [evS_asg, evE_lf, e2, bind_ok, tf, out_ok, kAsg_eq, evTg_name, List.set_cons_zero, List.set_cons_succ]
theorem holds (ns : List Int) (hl : ns.length ≤ 63) : ∃ A', run (progOf T) gl fuel 20 "law" [.fl (ns.map AV.int)] [] = .ok (.bl true) A' := by
  rw [run_eq (e := e_law) rfl [] rfl]
  show ∃ A', (evSs (C 19) b_law [some (.fl (ns.map .int)), none, none, none, none, none, none, none, none, none, none] []).fin = .ok (.bl true) A'
  obtain ⟨ks, M, n2, A1, s1, K, D1⟩ := segA ns hl
  obtain ⟨row, A2, s2, rb, rz, F2⟩ := segB (ns := ns) (n2 := n2) K D1
  obtain ⟨r, l, A3, e3, F3, hr, g3, hl9, hg⟩ := atoms_ok K 14 F2.dr
  have e3 : R 19 "_law_atoms" [.ref 1, .pt ks] A2 = .ok (.ref r) A3 := e3
  obtain ⟨o8, A4, s4, x4⟩ := segC (ns := ns) (n2 := n2) K rb rz hl9 hg g3
  have D4 := (x4.fr F3.dr).dr
  obtain ⟨L, A5, s5, hL, lL, gL⟩ := segD (ns := ns) (n2 := n2) (w := rowI row) hl9 hg D4 (x4.get g3) (by have := F2.dr.lt; omega) o8
  have z5 : 5 ≤ sizeLine := Nat.le_of_lt (size_big (by omega))
  have es : b_law = b_law.take 4 ++ ((b_law.drop 4).take 3 ++ b_law.drop 7) := rfl
  rw [es, evSs_append, s1, seq_next, evSs_append]
  have s2 : evSs (C 19) ((b_law.drop 4).take 3) [some (.fl (ns.map .int)), some (.ref 1), some (.ref n2), some (.pt ks), none, some (.int M), none, none, none, none, none] A1 = .next [some (.fl (ns.map .int)), some (.ref 1), some (.ref n2), some (.pt ks), none, some (.int M), some (rowI row), none, none, none, none] A2 := s2
  rw [s2, seq_next]
  have last : ∃ o10 A', evS (C 19) (.for_ (.name 10) (.v (.tup [(.lit (.int 0)), (.lit (.int 1)), (.lit (.int 2)), (.lit (.int 5)), (.bif .len [(.var 6)])])) [.if_ (.not (.call "_law_says" [(.var 3), (.var 9), (.sl (.var 6) none (some (.var 10)))] [])) [.ret (.lit (.bl false))] []])
      [some (.fl (ns.map .int)), some (.ref 1), some (.ref n2), some (.pt ks), none, some (.int M), some (rowI row), some (.ref r), o8, some (costT L), none] A5 = .next [some (.fl (ns.map .int)), some (.ref 1), some (.ref n2), some (.pt ks), none, some (.int M), some (rowI row), some (.ref r), o8, some (costT L), o10] A' := by
    rw [forV (xs := [.int (0 : Nat), .int (1 : Nat), .int (2 : Nat), .int (5 : Nat), .int (row.length : Nat)]) (by simp [len_row, z5])]
    obtain ⟨σ', A', q1, o10, rfl⟩ := for_end (chk := (Itm.val [.int (0 : Nat), .int (1 : Nat), .int (2 : Nat), .int (5 : Nat), .int (row.length : Nat)]).chk) (tg := fun x σ A => evTg (C 19) (.name 10) x σ A) (body := fun σ A => evSs (C 19) [.if_ (.not (.call "_law_says" [(.var 3), (.var 9), (.sl (.var 6) none (some (.var 10)))] [])) [.ret (.lit (.bl false))] []] σ A) (xs := [.int (0 : Nat), .int (1 : Nat), .int (2 : Nat), .int (5 : Nat), .int (row.length : Nat)])
      (σ := [some (.fl (ns.map .int)), some (.ref 1), some (.ref n2), some (.pt ks), none, some (.int M), some (rowI row), some (.ref r), o8, some (costT L), none]) (A := A5)
      (fun i σ A' => ∃ o10, σ = [some (.fl (ns.map .int)), some (.ref 1), some (.ref n2), some (.pt ks), none, some (.int M), some (rowI row), some (.ref r), o8, some (costT L), o10]) ⟨none, rfl⟩ (fun _ _ _ _ _ => rfl) (fun i x σ B hx ⟨o10, e⟩ => by
        subst e
        obtain ⟨q, rfl⟩ : ∃ q : Nat, x = .int q := by
          have := List.mem_of_getElem? hx
          simp only [List.mem_cons, List.not_mem_nil, or_false] at this
          rcases this with h | h | h | h | h <;> exact ⟨_, h⟩
        have sl := rowI_to row q B
        obtain ⟨B2, e2, _⟩ := says_ok hL (by omega) gL 9 B (row := row.take q) (rb.take q) (by rw [List.length_take]; omega)
        have e2 : R 19 "_law_says" [.pt ks, costT L, rowI (row.take q)] B = .ok (.bl true) B2 := e2
        refine ⟨_, _, rfl, [some (.fl (ns.map .int)), some (.ref 1), some (.ref n2), some (.pt ks), none, some (.int M), some (rowI row), some (.ref r), o8, some (costT L), some (.int q)], B2, ?_, _, rfl⟩
        generalize costT L = w at e2
        generalize rowI (row.take q) = w2 at sl e2
        generalize rowI row = w3 at sl
        simp [sl, e2])
    exact ⟨o10, A', q1⟩
  obtain ⟨o10, A6, s6⟩ := last
  refine ⟨A6, ?_⟩
  show (evSs (C 19) [.asg (.name 7) (.call "_law_atoms" [(.var 1), (.var 3)] []),
    .for_ (.name 8) (.v (.var 7)) [.if_ (.not (.call "_law_says" [(.var 3), (.tup [(.tup [(.lit (.int 1)), (.var 8)])]), (.var 6)] [])) [.ret (.lit (.bl false))] []],
    .asg (.name 9) (.lf .tups (.comp [8] (.v (.call "_law_shuffled" [(.var 1), (.var 7)] [])) (.name 8) (.lit (.bl true)) (.tup [(.call "_law_factor" [(.var 1)] []), (.var 8)]))),
    .for_ (.name 10) (.v (.tup [(.lit (.int 0)), (.lit (.int 1)), (.lit (.int 2)), (.lit (.int 5)), (.bif .len [(.var 6)])])) [.if_ (.not (.call "_law_says" [(.var 3), (.var 9), (.sl (.var 6) none (some (.var 10)))] [])) [.ret (.lit (.bl false))] []],
    .ret (.lit (.bl true))] [some (.fl (ns.map .int)), some (.ref 1), some (.ref n2), some (.pt ks), none, some (.int M), some (rowI row), none, none, none, none] A2).fin = .ok (.bl true) A6
  rw [evSs_cons, evS_asg, evE_call]
  simp only [evEs_cons, evE_var, List.getElem?_cons_zero, List.getElem?_cons_succ, bind_ok, kCons_eq, evEs_nil, kCons2_eq, kCall_eq, List.append_nil, e3, out_ok, kAsg_eq, evTg_name, List.set_cons_zero, List.set_cons_succ, seq_next, kSs_eq]
  rw [evSs_cons, s4, seq_next, kSs_eq, evSs_cons, s5, seq_next, kSs_eq, evSs_cons, s6, seq_next, kSs_eq]
  simp
end Law


open PySem PySem.W PyProof.Rows
set_option maxHeartbeats 0 in
theorem PySem.Challenge.cw_outlaypact_k09_atoms_holds : PySem.Challenge.rw_outlaypact_k09_atoms.Holds := by
  w_on; o_law; k_head; (case hw => w_witness2)
  k_fill
  refine L2.walk_ofK (l := PySem.Challenge.rw_outlaypact_k09_atoms) (n := 63) (k := 20) (x := "script") (CX := L2.CX0) (sp := fun K => Ev.spEv K ⟨Ev.run (Ev.progOf Law.T) Law.gl Law.fuel 20, Law.gl, Law.fuel⟩ "law") rfl (by decide) rfl ⟨rfl, by decide, by decide⟩ (fun w h Y => PySem.W.kIn_of Y) ?F (fun K H a ns hl hO hS => (Law.holds ns hl).elim fun _ q => Ev.law_sp hO hS q) (fun _ _ _ _ h => h)
  case F =>
    intro w mg fa h KX Gh hmg
    have h_such_members : Ev.EntAt KX mg Law.G Law.e_such_members := by
      refine' Ev.ent_mk (gl := Law.gl) (st := Law.topS 1) (x := "such_members") rfl KX Gh ?a ?l ?c ?k Law.s_such_members Law.t_such_members rfl (fun _ _ _ _ _ _ us hl => match us, hl with | [_, _, _], _ => rfl)
      (case a => k_is); (case l => k_is); (case c => k_is); (case k => k_is)
    have h_top_meaning : Ev.EntAt KX mg Law.G Law.e_top_meaning := by
      refine' Ev.ent_mk (gl := Law.gl) (st := Law.topS 2) (x := "top_meaning") rfl KX Gh ?a ?l ?c ?k Law.s_top_meaning Law.t_top_meaning rfl (fun _ _ _ _ _ _ us hl => match us, hl with | [_, _, _], _ => rfl)
      (case a => k_is); (case l => k_is); (case c => k_is); (case k => k_is)
    have h_stair_meaning : Ev.EntAt KX mg Law.G Law.e_stair_meaning := by
      refine' Ev.ent_mk (gl := Law.gl) (st := Law.topS 3) (x := "stair_meaning") rfl KX Gh ?a ?l ?c ?k Law.s_stair_meaning Law.t_stair_meaning rfl (fun _ _ _ _ _ _ us hl => match us, hl with | [_, _], _ => rfl)
      (case a => k_is); (case l => k_is); (case c => k_is); (case k => k_is)
    have h_link_meaning : Ev.EntAt KX mg Law.G Law.e_link_meaning := by
      refine' Ev.ent_mk (gl := Law.gl) (st := Law.topS 4) (x := "link_meaning") rfl KX Gh ?a ?l ?c ?k Law.s_link_meaning Law.t_link_meaning rfl (fun _ _ _ _ _ _ us hl => match us, hl with | [_, _, _, _], _ => rfl)
      (case a => k_is); (case l => k_is); (case c => k_is); (case k => k_is)
    have h_atom_meaning : Ev.EntAt KX mg Law.G Law.e_atom_meaning := by
      refine' Ev.ent_mk (gl := Law.gl) (st := Law.topS 5) (x := "atom_meaning") rfl KX Gh ?a ?l ?c ?k Law.s_atom_meaning Law.t_atom_meaning rfl (fun _ _ _ _ _ _ us hl => match us, hl with | [_, _, _], _ => rfl)
      (case a => k_is); (case l => k_is); (case c => k_is); (case k => k_is)
    have h_meaning_of : Ev.EntAt KX mg Law.G Law.e_meaning_of := by
      refine' Ev.ent_mk (gl := Law.gl) (st := Law.topS 6) (x := "meaning_of") rfl KX Gh ?a ?l ?c ?k Law.s_meaning_of Law.t_meaning_of rfl (fun _ _ _ _ _ _ us hl => match us, hl with | [_, _, _], _ => rfl)
      (case a => k_is); (case l => k_is); (case c => k_is); (case k => k_is)
    have h__law_begin : Ev.EntAt KX mg Law.G Law.e__law_begin := by
      refine' Ev.ent_mk (gl := Law.gl) (st := Law.topS 8) (x := "_law_begin") rfl KX Gh ?a ?l ?c ?k Law.s__law_begin Law.t__law_begin rfl (fun _ _ _ _ _ _ us hl => match us, hl with | [_], _ => rfl)
      (case a => k_is); (case l => k_is); (case c => k_is); (case k => k_is)
    have h__law_draw : Ev.EntAt KX mg Law.G Law.e__law_draw := by
      refine' Ev.ent_mk (gl := Law.gl) (st := Law.topS 9) (x := "_law_draw") rfl KX Gh ?a ?l ?c ?k Law.s__law_draw Law.t__law_draw rfl (fun _ _ _ _ _ _ us hl => match us, hl with | [_, _], _ => rfl)
      (case a => k_is); (case l => k_is); (case c => k_is); (case k => k_is)
    have h__law_pick : Ev.EntAt KX mg Law.G Law.e__law_pick := by
      refine' Ev.ent_mk (gl := Law.gl) (st := Law.topS 10) (x := "_law_pick") rfl KX Gh ?a ?l ?c ?k Law.s__law_pick Law.t__law_pick rfl (fun _ _ _ _ _ _ us hl => match us, hl with | [_, _], _ => rfl)
      (case a => k_is); (case l => k_is); (case c => k_is); (case k => k_is)
    have h__law_pop : Ev.EntAt KX mg Law.G Law.e__law_pop := by
      refine' Ev.ent_mk (gl := Law.gl) (st := Law.topS 11) (x := "_law_pop") rfl KX Gh ?a ?l ?c ?k Law.s__law_pop Law.t__law_pop rfl (fun _ _ _ _ _ _ us hl => match us, hl with | [_, _], _ => rfl)
      (case a => k_is); (case l => k_is); (case c => k_is); (case k => k_is)
    have h__law_rare : Ev.EntAt KX mg Law.G Law.e__law_rare := by
      refine' Ev.ent_mk (gl := Law.gl) (st := Law.topS 12) (x := "_law_rare") rfl KX Gh ?a ?l ?c ?k Law.s__law_rare Law.t__law_rare rfl (fun _ _ _ _ _ _ us hl => match us, hl with | [_, _], _ => rfl)
      (case a => k_is); (case l => k_is); (case c => k_is); (case k => k_is)
    have h__law_shuffled : Ev.EntAt KX mg Law.G Law.e__law_shuffled := by
      refine' Ev.ent_mk (gl := Law.gl) (st := Law.topS 13) (x := "_law_shuffled") rfl KX Gh ?a ?l ?c ?k Law.s__law_shuffled Law.t__law_shuffled rfl (fun _ _ _ _ _ _ us hl => match us, hl with | [_, _], _ => rfl)
      (case a => k_is); (case l => k_is); (case c => k_is); (case k => k_is)
    have h__law_pool : Ev.EntAt KX mg Law.G Law.e__law_pool := by
      refine' Ev.ent_mk (gl := Law.gl) (st := Law.topS 14) (x := "_law_pool") rfl KX Gh ?a ?l ?c ?k Law.s__law_pool Law.t__law_pool rfl (fun _ _ _ _ _ _ us hl => match us, hl with | [], _ => rfl)
      (case a => k_is); (case l => k_is); (case c => k_is); (case k => k_is)
    have h__law_is_int : Ev.EntAt KX mg Law.G Law.e__law_is_int := by
      refine' Ev.ent_mk (gl := Law.gl) (st := Law.topS 15) (x := "_law_is_int") rfl KX Gh ?a ?l ?c ?k Law.s__law_is_int Law.t__law_is_int rfl (fun _ _ _ _ _ _ us hl => match us, hl with | [_], _ => rfl)
      (case a => k_is); (case l => k_is); (case c => k_is); (case k => k_is)
    have h__law_some_names : Ev.EntAt KX mg Law.G Law.e__law_some_names := by
      refine' Ev.ent_mk (gl := Law.gl) (st := Law.topS 16) (x := "_law_some_names") rfl KX Gh ?a ?l ?c ?k Law.s__law_some_names Law.t__law_some_names rfl (fun _ _ _ _ _ _ us hl => match us, hl with | [_, _], _ => rfl)
      (case a => k_is); (case l => k_is); (case c => k_is); (case k => k_is)
    have h__law_number : Ev.EntAt KX mg Law.G Law.e__law_number := by
      refine' Ev.ent_mk (gl := Law.gl) (st := Law.topS 17) (x := "_law_number") rfl KX Gh ?a ?l ?c ?k Law.s__law_number Law.t__law_number rfl (fun _ _ _ _ _ _ us hl => match us, hl with | [_], _ => rfl)
      (case a => k_is); (case l => k_is); (case c => k_is); (case k => k_is)
    have h__law_factor : Ev.EntAt KX mg Law.G Law.e__law_factor := by
      refine' Ev.ent_mk (gl := Law.gl) (st := Law.topS 18) (x := "_law_factor") rfl KX Gh ?a ?l ?c ?k Law.s__law_factor Law.t__law_factor rfl (fun _ _ _ _ _ _ us hl => match us, hl with | [_], _ => rfl)
      (case a => k_is); (case l => k_is); (case c => k_is); (case k => k_is)
    have h__law_plain : Ev.EntAt KX mg Law.G Law.e__law_plain := by
      refine' Ev.ent_mk (gl := Law.gl) (st := Law.topS 19) (x := "_law_plain") rfl KX Gh ?a ?l ?c ?k Law.s__law_plain Law.t__law_plain rfl (fun _ _ _ _ _ _ us hl => match us, hl with | [_, _, _], _ => rfl)
      (case a => k_is); (case l => k_is); (case c => k_is); (case k => k_is)
    have h__law_atoms : Ev.EntAt KX mg Law.G Law.e__law_atoms := by
      refine' Ev.ent_mk (gl := Law.gl) (st := Law.topS 20) (x := "_law_atoms") rfl KX Gh ?a ?l ?c ?k Law.s__law_atoms Law.t__law_atoms rfl (fun _ _ _ _ _ _ us hl => match us, hl with | [_, _], _ => rfl)
      (case a => k_is); (case l => k_is); (case c => k_is); (case k => k_is)
    have h__law_members : Ev.EntAt KX mg Law.G Law.e__law_members := by
      refine' Ev.ent_mk (gl := Law.gl) (st := Law.topS 21) (x := "_law_members") rfl KX Gh ?a ?l ?c ?k Law.s__law_members Law.t__law_members rfl (fun _ _ _ _ _ _ us hl => match us, hl with | [_, _, _], _ => rfl)
      (case a => k_is); (case l => k_is); (case c => k_is); (case k => k_is)
    have h__law_walked_top : Ev.EntAt KX mg Law.G Law.e__law_walked_top := by
      refine' Ev.ent_mk (gl := Law.gl) (st := Law.topS 22) (x := "_law_walked_top") rfl KX Gh ?a ?l ?c ?k Law.s__law_walked_top Law.t__law_walked_top rfl (fun _ _ _ _ _ _ us hl => match us, hl with | [_, _, _], _ => rfl)
      (case a => k_is); (case l => k_is); (case c => k_is); (case k => k_is)
    have h__law_walked_link : Ev.EntAt KX mg Law.G Law.e__law_walked_link := by
      refine' Ev.ent_mk (gl := Law.gl) (st := Law.topS 23) (x := "_law_walked_link") rfl KX Gh ?a ?l ?c ?k Law.s__law_walked_link Law.t__law_walked_link rfl (fun _ _ _ _ _ _ us hl => match us, hl with | [_, _, _], _ => rfl)
      (case a => k_is); (case l => k_is); (case c => k_is); (case k => k_is)
    have h__law_walked_count : Ev.EntAt KX mg Law.G Law.e__law_walked_count := by
      refine' Ev.ent_mk (gl := Law.gl) (st := Law.topS 24) (x := "_law_walked_count") rfl KX Gh ?a ?l ?c ?k Law.s__law_walked_count Law.t__law_walked_count rfl (fun _ _ _ _ _ _ us hl => match us, hl with | [_, _], _ => rfl)
      (case a => k_is); (case l => k_is); (case c => k_is); (case k => k_is)
    have h__law_walked_atom : Ev.EntAt KX mg Law.G Law.e__law_walked_atom := by
      refine' Ev.ent_mk (gl := Law.gl) (st := Law.topS 25) (x := "_law_walked_atom") rfl KX Gh ?a ?l ?c ?k Law.s__law_walked_atom Law.t__law_walked_atom rfl (fun _ _ _ _ _ _ us hl => match us, hl with | [_, _, _], _ => rfl)
      (case a => k_is); (case l => k_is); (case c => k_is); (case k => k_is)
    have h__law_walked : Ev.EntAt KX mg Law.G Law.e__law_walked := by
      refine' Ev.ent_mk (gl := Law.gl) (st := Law.topS 26) (x := "_law_walked") rfl KX Gh ?a ?l ?c ?k Law.s__law_walked Law.t__law_walked rfl (fun _ _ _ _ _ _ us hl => match us, hl with | [_, _, _], _ => rfl)
      (case a => k_is); (case l => k_is); (case c => k_is); (case k => k_is)
    have h__law_says : Ev.EntAt KX mg Law.G Law.e__law_says := by
      refine' Ev.ent_mk (gl := Law.gl) (st := Law.topS 27) (x := "_law_says") rfl KX Gh ?a ?l ?c ?k Law.s__law_says Law.t__law_says rfl (fun _ _ _ _ _ _ us hl => match us, hl with | [_, _, _], _ => rfl)
      (case a => k_is); (case l => k_is); (case c => k_is); (case k => k_is)
    have z : ∀ x, Ev.isBlt x = true → mg x = none := by
      refine' Ev.blt_of (Ev.all1 (PySem.W.mg_none_of KX Gh ?z0) (Ev.all1 (PySem.W.mg_none_of KX Gh ?z1) (Ev.all1 (PySem.W.mg_none_of KX Gh ?z2) (Ev.all1 (PySem.W.mg_none_of KX Gh ?z3) (Ev.all1 (PySem.W.mg_none_of KX Gh ?z4) (Ev.all1 (PySem.W.mg_none_of KX Gh ?z5) (Ev.all1 (PySem.W.mg_none_of KX Gh ?z6) (Ev.all1 (PySem.W.mg_none_of KX Gh ?z7) (Ev.all1 (PySem.W.mg_none_of KX Gh ?z8) (Ev.all1 (PySem.W.mg_none_of KX Gh ?z9) (Ev.all1 (PySem.W.mg_none_of KX Gh ?z10) (Ev.all1 (PySem.W.mg_none_of KX Gh ?z11) (Ev.all1 (PySem.W.mg_none_of KX Gh ?z12) (Ev.all1 (PySem.W.mg_none_of KX Gh ?z13) (Ev.all1 (PySem.W.mg_none_of KX Gh ?z14) (Ev.all1 (PySem.W.mg_none_of KX Gh ?z15) (Ev.all1 (PySem.W.mg_none_of KX Gh ?z16) (Ev.all1 (PySem.W.mg_none_of KX Gh ?z17) (Ev.all1 (PySem.W.mg_none_of KX Gh ?z18) (Ev.all0))))))))))))))))))))
      (case z0 => k_is); (case z1 => k_is); (case z2 => k_is); (case z3 => k_is); (case z4 => k_is); (case z5 => k_is); (case z6 => k_is); (case z7 => k_is); (case z8 => k_is); (case z9 => k_is); (case z10 => k_is); (case z11 => k_is); (case z12 => k_is); (case z13 => k_is); (case z14 => k_is); (case z15 => k_is); (case z16 => k_is); (case z17 => k_is); (case z18 => k_is)
    refine' Ev.law_F (T := Law.T) (gl := Law.gl) (gcd := false) (fuel := Law.fuel) (st := Law.topS 28) (e := Law.e_law) (k := 20) KX Gh hmg rfl rfl ?a ?l ?c ?k Law.s_law Law.t_law (fun _ _ _ _ _ _ _ => rfl) ?qT z ?qG ?qC rfl rfl
    (case a => k_is); (case l => k_is); (case c => k_is); (case k => k_is)
    case qT => exact fun hL => Ev.ents1 h_such_members (Ev.ents1 h_top_meaning (Ev.ents1 h_stair_meaning (Ev.ents1 h_link_meaning (Ev.ents1 h_atom_meaning (Ev.ents1 h_meaning_of (Ev.ents1 h__law_begin (Ev.ents1 h__law_draw (Ev.ents1 h__law_pick (Ev.ents1 h__law_pop (Ev.ents1 h__law_rare (Ev.ents1 h__law_shuffled (Ev.ents1 h__law_pool (Ev.ents1 h__law_is_int (Ev.ents1 h__law_some_names (Ev.ents1 h__law_number (Ev.ents1 h__law_factor (Ev.ents1 h__law_plain (Ev.ents1 h__law_atoms (Ev.ents1 h__law_members (Ev.ents1 h__law_walked_top (Ev.ents1 h__law_walked_link (Ev.ents1 h__law_walked_count (Ev.ents1 h__law_walked_atom (Ev.ents1 h__law_walked (Ev.ents1 h__law_says (Ev.ents1 hL (Ev.ents0)))))))))))))))))))))))))))
    case qG => intro h; cases h
    case qC =>
      intro x v hv
      unfold Law.gl at hv
      cases hv
