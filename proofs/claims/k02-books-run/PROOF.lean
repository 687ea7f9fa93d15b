import PyProof.Rows.All
import HandS.ForMost
import HandS.TupAny
import HandS.TupMul
import HandS.Wide
import HandS.IsInst
import HandS.Deep
import HandS.Gcd
import HandS.Flow
import HandS.Conv
import HandS.DictTup
import PySem.Challenge.RW_outlaypact_k02_books_run
set_option Elab.async false
set_option linter.all false
set_option maxRecDepth 100000
namespace Ev
open PySem L2

inductive AV where
  | non | bl (b : Bool) | int (i : Int) | str (x : Str) | tup (xs : List AV) | fl (xs : List AV) | ref (n : Nat) | ty (n : String)
  deriving Inhabited

inductive AO where
  | lst (xs : List AV) | dK (kvs : List (Key × AV)) | dT (kvs : List (List Key × AV))
  deriving Inhabited
abbrev AH := List AO
abbrev Sl := List (Option AV)

inductive Res (α : Type) where
  | ok (a : α) (A : AH) | bad
def Res.bind {α β : Type} (r : Res α) (f : α → AH → Res β) : Res β :=
  match r with | .ok a A => f a A | .bad => .bad

inductive BOp where | add | sub | mul | fdiv | mod | pow | shl | shr | band deriving DecidableEq
inductive COp where | eq | ne | lt | le | gt | ge | is_ | isnot | in_ | notin deriving DecidableEq
inductive LF where | tup | sum | all | any | len | max | min deriving DecidableEq
inductive Bif where | isinst | len | abs | int_ | min2 | max2 | listof | tupof | gcd | lfof (f : LF) deriving DecidableEq
inductive Mth where | append | pop0 | pop1 | reverse | extend deriving DecidableEq

mutual
inductive E where
  | var (i : Nat) | lit (v : AV) | glob (x : Str)
  | bin (o : BOp) (a b : E) | cmp (o : COp) (a b : E) | chain (o p : COp) (a b c : E)
  | neg (a : E) | not (a : E) | and (a b : E) | or (a b : E) | ite (c a b : E)
  | tup (es : List E) | ix (a b : E) | sl (a : E) (lo hi : Option E)
  | call (f : Str) (es : List E) (ds : List AV) | bif (f : Bif) (es : List E) | mth (m : Mth) (o : E) (es : List E)
  | new (l : L) | lf (f : LF) (l : L)
inductive L where
  | disp (es : List E) | comp (own : List Nat) (it : I) (tg : T) (cond : E) (elt : E)
inductive I where
  | v (e : E) | l (l : L) | range1 (a : E) | range2 (a b : E) | zip (a b : E)
inductive T where
  | name (i : Nat) | tup (ts : List T) | sub (o i : E)
end
inductive S where
  | asg (t : T) (e : E) | par (i j : Nat) (a b : E) | aug (i : Nat) (o : BOp) (e : E) | augs (o i : E) (op : BOp) (e : E)
  | expr (e : E) | ret (e : E) | if_ (c : E) (a b : List S) | for_ (t : T) (it : I) (b : List S) | while_ (c : E) (b : List S)
  | pass | brk | cont

/-! ### values -/
/-- truth -/
def truth (A : AH) : AV → Option Bool
  | .non => some false | .bl b => some b | .int i => some (i != 0) | .str x => if x.length ≤ sizeLine then some ((x.length : Int) != 0) else none
  | .tup xs => some (!xs.isEmpty) | .fl xs => some (!xs.isEmpty)
  | .ref n => match A[n]? with | some (.lst xs) => some (!xs.isEmpty) | some (.dK kvs) => some (!kvs.isEmpty) | _ => none
  | .ty _ => none
mutual
def pd0 : AV → Option PyData
  | .non => some .none | .bl b => some (.bool b) | .int i => some (.int i) | .str x => some (.str x)
  | .tup xs => (pds xs).map .tuple | .fl _ => none | .ref _ => none | .ty _ => none
def pds : List AV → Option (List PyData)
  | [] => some [] | x :: xs => match pd0 x, pds xs with | some d, some ds => some (d :: ds) | _, _ => none
end
def seqOf (A : AH) : AV → Option (List AV)
  | .tup xs => some xs
  | .fl xs => some xs
  | .ref n => match A[n]? with | some (.lst xs) => some xs | _ => none
  | _ => none
def pd (A : AH) : AV → Option PyData
  | .ref n => match A[n]? with | some (.lst xs) => (pds xs).map .list | _ => none
  | .fl xs => (pds xs).map .list
  | v => pd0 v
def aEq (A : AH) (x y : AV) : Option Bool :=
  match pd A x, pd A y with
  | some d, some e => if SeqAt.shaped d && SeqAt.shaped e then some (PyData.eqv d e) else none
  | _, _ => none
def intsOf : List AV → Option (List Int)
  | [] => some [] | .int i :: r => (intsOf r).map (i :: ·) | _ => none
def boolsOf : List AV → Option (List Bool)
  | [] => some [] | .bl i :: r => (boolsOf r).map (i :: ·) | _ => none
def flat : AV → Bool | .non => true | .bl _ => true | .int _ => true | .str _ => true | _ => false
def eqFl : AV → AV → Bool
  | .non, .non => true
  | .bl a, .bl b => a == b
  | .bl a, .int b => (if a then 1 else 0) == b
  | .int a, .bl b => a == (if b then 1 else 0)
  | .int a, .int b => a == b
  | .str a, .str b => a == b
  | _, _ => false
def aIn (A : AH) (x y : AV) : Option Bool :=
  match y with
  | .str z => match x with | .str i => some (!(Builtin.Str.occurrences z i 0 z.length 1).isEmpty) | _ => none
  | .tup ys => if flat x && ys.all flat then some (ys.any fun z => eqFl z x) else none
  | _ => match seqOf A y, pd0 x with
    | some ys, some d => match pds ys with
      | some ds => if SeqAt.shaped d && SeqAt.shaped (.list ds) then some (ds.any fun z => PyData.eqv z d) else none
      | none => none
    | _, _ => none
def aLt (x y : AV) : Option Bool :=
  match x, y with
  | .int i, .int j => some (decide (i < j))
  | .str i, .str j => some (decide (i.cps.toList < j.cps.toList))
  | .tup xs, .tup ys => match intsOf xs, intsOf ys with | some a, some b => some (HT.lexLt a b) | _, _ => none
  | _, _ => none
def isNone : AV → Bool | .non => true | _ => false
def aCmp (o : COp) (x y : AV) (A : AH) : Option Bool :=
  match o with
  | .eq => aEq A x y
  | .ne => (aEq A x y).map (!·)
  | .lt => aLt x y
  | .gt => match x, y with | .int i, .int j => some (decide (j < i)) | _, _ => none
  | .le => match x, y with | .int i, .int j => some (decide (i ≤ j)) | _, _ => none
  | .ge => match x, y with | .int i, .int j => some (decide (j ≤ i)) | _, _ => none
  | .is_ => match y with | .non => some (isNone x) | _ => none
  | .isnot => match y with | .non => some (!isNone x) | _ => none
  | .in_ => aIn A x y
  | .notin => (aIn A x y).map (!·)
def mulOk (i j : Int) : Bool := (decide (-(2 ^ 64) < i) && decide (i < 2 ^ 64)) || (decide (-(2 ^ 64) < j) && decide (j < 2 ^ 64)) || decide (i.natAbs.log2 + j.natAbs.log2 < 1000000)
def divOk (j : Int) : Bool := (decide (0 < j) && decide (j.natAbs.log2 < 9000)) || (decide (j ≠ 0) && decide (j.natAbs < 1073741824))
def powOk (i j : Int) : Bool := decide (0 ≤ j) && decide (j ≤ 1000000) && decide (i.natAbs < 2 ^ 64)
def aBin (o : BOp) (x y : AV) (A : AH) : Res AV :=
  match o, x, y with
  | .add, .int i, .int j => .ok (.int (i + j)) A
  | .sub, .int i, .int j => .ok (.int (i - j)) A
  | .mul, .int i, .int j => if mulOk i j then .ok (.int (i * j)) A else .bad
  | .fdiv, .int i, .int j => if divOk j then .ok (.int (i.fdiv j)) A else .bad
  | .mod, .int i, .int j => if j ≠ 0 then .ok (.int (i.fmod j)) A else .bad
  | .pow, .int i, .int j => if powOk i j then .ok (.int (i ^ j.toNat)) A else .bad
  | .shl, .int i, .int j => if powOk i j then .ok (.int (i * 2 ^ j.toNat)) A else .bad
  | .shr, .int i, .int j => if 0 ≤ j then .ok (.int (i / 2 ^ j.toNat)) A else .bad
  | .band, .int i, .int j => .ok (.int (Builtin.bitAnd i j)) A
  | .add, .str i, .str j => if i.length + j.length ≤ sizeLine then .ok (.str (i ++ j)) A else .bad
  | .add, .tup xs, .tup ys => if xs.length + ys.length ≤ sizeLine then .ok (.tup (xs ++ ys)) A else .bad
  | .mul, .tup xs, .int k => if xs ≠ [] ∧ 2 ≤ k ∧ k ≤ 1000 ∧ xs.length ≤ 1000 then .ok (.tup (List.replicate k.toNat xs).flatten) A else .bad
  | .add, .ref n, .ref k => match A[n]?, A[k]? with
    | some (.lst xs), some (.lst ys) => if xs.length + ys.length ≤ sizeLine then .ok (.ref A.length) (A ++ [.lst (xs ++ ys)]) else .bad
    | _, _ => .bad
  | .mul, .ref n, .int k => match A[n]? with
    | some (.lst xs) => if -(2 ^ 63) ≤ k ∧ k < 2 ^ 63 ∧ xs.length * k.toNat ≤ sizeLine then .ok (.ref A.length) (A ++ [.lst (List.replicate k.toNat xs).flatten]) else .bad
    | _ => .bad
  | _, _, _ => .bad
/-- x op= y -/
def aAug (o : BOp) (x y : AV) (A : AH) : Res AV :=
  match o, x, y with
  | .add, .int i, .int j => .ok (.int (i + j)) A
  | .sub, .int i, .int j => .ok (.int (i - j)) A
  | .add, .str i, .str j => if i.length + j.length ≤ sizeLine then .ok (.str (i ++ j)) A else .bad
  | _, _, _ => .bad
def aIx (x y : AV) (A : AH) : Option AV :=
  match y with
  | .int i => match x with
    | .str z => if z.length ≤ sizeLine then (atI z.cps.toList i).map fun c => .str ⟨#[c]⟩ else none
    | _ => (seqOf A x).bind fun xs => atI xs i
  | _ => none
def cut {α : Type} (xs : List α) (lo hi : Option Int) : List α := (xs.drop (HT.sIx xs.length 0 lo)).take (HT.sIx xs.length xs.length hi - HT.sIx xs.length 0 lo)
def aSl (x : AV) (lo hi : Option Int) (A : AH) : Res AV :=
  match x with
  | .tup xs => .ok (.tup (cut xs lo hi)) A
  | .fl xs => .ok (.ref A.length) (A ++ [.lst (cut xs lo hi)])
  | .str z => if z.length ≤ sizeLine then .ok (.str (cutS z lo hi)) A else .bad
  | .ref n => match A[n]? with
    | some (.lst xs) => .ok (.ref A.length) (A ++ [.lst (cut xs lo hi)])
    | _ => .bad
  | _ => .bad
def tyName (A : AH) : AV → Option String
  | .non => some "NoneType" | .bl _ => some "bool" | .int _ => some "int" | .str _ => some "str" | .tup _ => some "tuple" | .fl _ => some "list"
  | .ref n => match A[n]? with | some (.lst _) => some "list" | some (.dK _) => some "dict" | some (.dT _) => some "dict" | _ => none
  | .ty _ => none
/-- isinstance for the types that stand in the programs -/
def isA (t T : String) : Option Bool :=
  if T = "int" then some (t == "int" || t == "bool") else if T = "bool" ∨ T = "str" ∨ T = "tuple" ∨ T = "list" ∨ T = "dict" then some (t == T) else none
def aLF (f : LF) (xs : List AV) (A : AH) : Res AV :=
  match f with
  | .tup => .ok (.tup xs) A
  | .sum => match intsOf xs with | some ns => .ok (.int ns.sum) A | none => .bad
  | .all => match boolsOf xs with | some bs => .ok (.bl (bs.all id)) A | none => .bad
  | .any => match boolsOf xs with | some bs => .ok (.bl (bs.any id)) A | none => .bad
  | .len => .ok (.int xs.length) A
  | .max => match intsOf xs with | some (n :: ns) => .ok (.int (ns.foldl (fun a b => if b > a then b else a) n)) A | _ => .bad
  | .min => match intsOf xs with | some (n :: ns) => .ok (.int (ns.foldl (fun a b => if b < a then b else a) n)) A | _ => .bad
/-- the items of a list -/
def lstOf (A : AH) : AV → Option (List AV)
  | .fl xs => some xs
  | .ref n => match A[n]? with | some (.lst xs) => some xs | _ => none
  | _ => none
def aBif (f : Bif) (xs : List AV) (A : AH) : Res AV :=
  match f, xs with
  | .isinst, [x, .ty T] => match tyName A x with | some t => (match isA t T with | some b => .ok (.bl b) A | none => .bad) | none => .bad
  | .len, [x] => match x with
    | .str z => if z.length ≤ sizeLine then .ok (.int z.length) A else .bad
    | _ => match seqOf A x with | some ys => .ok (.int ys.length) A | none => .bad
  | .abs, [.int i] => .ok (.int (if i < 0 then -i else i)) A
  | .int_, [.int i] => .ok (.int i) A
  | .int_, [.bl b] => .ok (.int (if b then 1 else 0)) A
  | .min2, [.int i, .int j] => .ok (.int (if j < i then j else i)) A
  | .max2, [.int i, .int j] => .ok (.int (if j > i then j else i)) A
  | .listof, [x] => match seqOf A x with | some ys => .ok (.ref A.length) (A ++ [.lst ys]) | none => .bad
  | .tupof, [x] => match seqOf A x with | some ys => .ok (.tup ys) A | none => .bad
  | .gcd, [.int i, .int j] => .ok (.int ((Nat.gcd i.natAbs j.natAbs : Nat) : Int)) A
  | .lfof f, [x] => match lstOf A x with | some ys => aLF f ys A | none => .bad
  | _, _ => .bad
def aMth (m : Mth) (o : AV) (xs : List AV) (A : AH) : Res AV :=
  match o with
  | .ref n => match A[n]? with
    | some (.lst ys) => match m, xs with
      | .append, [x] => if ys.length < sizeLine then .ok .non (A.set n (.lst (ys ++ [x]))) else .bad
      | .pop0, [] => match ys[ys.length - 1]? with | some y => .ok y (A.set n (.lst ys.dropLast)) | none => .bad
      | .pop1, [.int i] => if -(2 ^ 63) ≤ i ∧ i < 2 ^ 63 then (match seqIndex? i ys.length with
          | some k => (match ys[k]? with | some y => .ok y (A.set n (.lst (ys.eraseIdx k))) | none => .bad) | none => .bad) else .bad
      | .reverse, [] => .ok .non (A.set n (.lst ys.reverse))
      | .extend, [.ref k] => match A[k]? with
        | some (.lst zs) => if ys.length + zs.length ≤ sizeLine then .ok .non (A.set n (.lst (ys ++ zs))) else .bad
        | _ => .bad
      | _, _ => .bad
    | _ => .bad
  | _ => .bad
/-- the receiver is of the method's type -/
def mthTy (_ : Mth) (x : AV) (A : AH) : Bool := match x with | .ref n => (match A[n]? with | some (.lst _) => true | _ => false) | _ => false
/-- o[i] = v -/
def aSet (o i v : AV) (A : AH) : Option AH :=
  match o, i with
  | .ref n, .int k => match A[n]? with
    | some (.lst xs) => match ixN xs.length k with | some j => some (A.set n (.lst (xs.set j v))) | none => none
    | _ => none
  | _, _ => none

/-! ### the evaluator -/
structure Cfg where
  fn : Str → List AV → AH → Res AV
  gl : Str → Option AV
  fuel : Nat

inductive Out where
  | next (σ : Sl) (A : AH) | ret (v : AV) (A : AH) | brk (σ : Sl) (A : AH) | cont (σ : Sl) (A : AH) | bad

def wipeS (σ : Sl) : List Nat → Sl
  | [] => σ
  | i :: r => (wipeS σ r).set i none

inductive Itm where
  | val (xs : List AV) | obj (n : Nat) (xs : List AV)
def Itm.items : Itm → List AV | .val xs => xs | .obj _ xs => xs
/-- the list is still what it was -/
noncomputable def Itm.chk : Itm → AH → Bool
  | .val _, _ => true
  | .obj n xs, A => @decide (A[n]? = some (.lst xs)) (Classical.propDecidable _)
def tru (x : AV) (A : AH) : Res Bool := match truth A x with | some k => .ok k A | none => .bad
/-- the turns of a comprehension -/
def compGo (chk : AH → Bool) (tg : AV → AH → Res Sl) (q : Sl → AH → Res Bool) (elt : Sl → AH → Res AV) : List AV → List AV → AH → Res (List AV)
  | [], acc, A => if chk A then .ok acc A else .bad
  | x :: r, acc, A => if chk A then (tg x A).bind fun σ2 A => (q σ2 A).bind fun k A =>
      if k then (elt σ2 A).bind fun y A => if acc.length < sizeLine then compGo chk tg q elt r (acc ++ [y]) A else .bad else compGo chk tg q elt r acc A else .bad
variable (c : Cfg)
mutual
noncomputable def evE : E → Sl → AH → Res AV
  | .var i, σ, A => match σ[i]? with | some (some v) => .ok v A | _ => .bad
  | .lit v, _, A => .ok v A
  | .glob x, _, A => match c.gl x with | some v => .ok v A | none => .bad
  | .bin o a b, σ, A => (evE a σ A).bind fun x A => (evE b σ A).bind fun y A => aBin o x y A
  | .cmp o a b, σ, A => (evE a σ A).bind fun x A => (evE b σ A).bind fun y A => match aCmp o x y A with | some k => .ok (.bl k) A | none => .bad
  | .chain o p a b d, σ, A => (evE a σ A).bind fun x A => (evE b σ A).bind fun y A => match aCmp o x y A with
    | some true => (evE d σ A).bind fun z A => (match aCmp p y z A with | some k => .ok (.bl k) A | none => .bad)
    | some false => .ok (.bl false) A
    | none => .bad
  | .neg a, σ, A => (evE a σ A).bind fun x A => match x with | .int i => .ok (.int (-i)) A | _ => .bad
  | .not a, σ, A => (evE a σ A).bind fun x A => match truth A x with | some k => .ok (.bl (!k)) A | none => .bad
  | .and a b, σ, A => (evE a σ A).bind fun x A => match truth A x with | some true => evE b σ A | some false => .ok x A | none => .bad
  | .or a b, σ, A => (evE a σ A).bind fun x A => match truth A x with | some true => .ok x A | some false => evE b σ A | none => .bad
  | .ite q a b, σ, A => ((evE q σ A).bind tru).bind fun k A => if k then evE a σ A else evE b σ A
  | .tup es, σ, A => (evEs es σ A).bind fun xs A => if xs.length ≤ sizeLine then .ok (.tup xs) A else .bad
  | .ix a b, σ, A => (evE a σ A).bind fun x A => (evE b σ A).bind fun y A => match aIx x y A with | some v => .ok v A | none => .bad
  | .sl a lo hi, σ, A => (evE a σ A).bind fun x A => (evO lo σ A).bind fun l A => (evO hi σ A).bind fun h A => aSl x l h A
  | .call f es ds, σ, A => (evEs es σ A).bind fun xs A => c.fn f (xs ++ ds) A
  | .bif f es, σ, A => (evEs es σ A).bind fun xs A => aBif f xs A
  | .mth m o es, σ, A => (evE o σ A).bind fun x A => if mthTy m x A then (evEs es σ A).bind fun xs A => aMth m x xs A else .bad
  | .new l, σ, A => (evL l σ A).bind fun xs A => .ok (.ref A.length) (A ++ [.lst xs])
  | .lf f l, σ, A => (evL l σ A).bind fun xs A => aLF f xs A
termination_by structural t _ _ => t
noncomputable def evEs : List E → Sl → AH → Res (List AV)
  | [], _, A => .ok [] A
  | e :: es, σ, A => (evE e σ A).bind fun x A => (evEs es σ A).bind fun xs A => .ok (x :: xs) A
termination_by structural t _ _ => t
noncomputable def evO : Option E → Sl → AH → Res (Option Int)
  | none, _, A => .ok none A
  | some e, σ, A => (evE e σ A).bind fun x A => match x with | .int i => .ok (some i) A | _ => .bad
termination_by structural t _ _ => t
noncomputable def evL : L → Sl → AH → Res (List AV)
  | .disp es, σ, A => (evEs es σ A).bind fun xs A => if xs.length ≤ sizeLine then .ok xs A else .bad
  | .comp own it tg q elt, σ, A => (evI it σ A).bind fun t A =>
      compGo t.chk (fun x A => evTg tg x (wipeS σ own) A) (fun σ A => (evE q σ A).bind tru) (fun σ A => evE elt σ A) t.items [] A
termination_by structural t _ _ => t
noncomputable def evI : I → Sl → AH → Res Itm
  | .v e, σ, A => (evE e σ A).bind fun x A => match x with
    | .tup xs => .ok (.val xs) A
    | .fl xs => .ok (.val xs) A
    | .ref n => (match A[n]? with | some (.lst xs) => .ok (.obj n xs) A | _ => .bad)
    | _ => .bad
  | .l l, σ, A => (evL l σ A).bind fun xs A => .ok (.val xs) A
  | .range1 a, σ, A => (evE a σ A).bind fun x A => match x with
    | .int j => if -(2 ^ 62) ≤ j ∧ j < 2 ^ 62 then .ok (.val ((List.range j.toNat).map fun (k : Nat) => AV.int k)) A else .bad
    | _ => .bad
  | .range2 a b, σ, A => (evE a σ A).bind fun x A => (evE b σ A).bind fun y A => match x, y with
    | .int i, .int j => if -(2 ^ 62) ≤ i ∧ i < 2 ^ 62 ∧ -(2 ^ 62) ≤ j ∧ j < 2 ^ 62 then .ok (.val ((List.range (j - i).toNat).map fun (k : Nat) => AV.int (i + k))) A else .bad
    | _, _ => .bad
  | .zip _ _, _, _ => .bad
termination_by structural t _ _ => t
noncomputable def evTg : T → AV → Sl → AH → Res Sl
  | .name i, v, σ, A => .ok (σ.set i (some v)) A
  | .tup ts, v, σ, A => match v with | .tup xs => if xs.length = ts.length then evTs ts xs σ A else .bad | _ => .bad
  | .sub o i, v, σ, A => (evE o σ A).bind fun x A => (evE i σ A).bind fun y A => match aSet x y v A with | some A' => .ok σ A' | none => .bad
termination_by structural t _ _ _ => t
noncomputable def evTs : List T → List AV → Sl → AH → Res Sl
  | [], [], σ, A => .ok σ A
  | t :: ts, x :: xs, σ, A => (evTg t x σ A).bind fun σ A => evTs ts xs σ A
  | _, _, _, _ => .bad
termination_by structural t _ _ _ => t
end

/-- a test -/
noncomputable def evT (e : E) (σ : Sl) (A : AH) : Res Bool := (evE c e σ A).bind tru
def Out.seq (o : Out) (f : Sl → AH → Out) : Out := match o with | .next σ A => f σ A | .ret v A => .ret v A | .brk σ A => .brk σ A | .cont σ A => .cont σ A | .bad => .bad
def Res.out {α : Type} (r : Res α) (f : α → AH → Out) : Out := match r with | .ok a A => f a A | .bad => .bad
/-- behind a loop's body -/
def Out.turn (o : Out) (f : Sl → AH → Out) : Out := match o with | .next σ A => f σ A | .ret v A => .ret v A | .brk σ A => .next σ A | .cont σ A => f σ A | .bad => .bad
def forGo (chk : AH → Bool) (tg : AV → Sl → AH → Res Sl) (body : Sl → AH → Out) : List AV → Sl → AH → Out
  | [], σ, A => if chk A then .next σ A else .bad
  | x :: r, σ, A => if chk A then (tg x σ A).out fun σ A => (body σ A).turn fun σ A => forGo chk tg body r σ A else .bad
def whGo (q : Sl → AH → Res Bool) (body : Sl → AH → Out) : Nat → Sl → AH → Out
  | 0, _, _ => .bad
  | n + 1, σ, A => (q σ A).out fun k A => if k then (body σ A).turn fun σ A => whGo q body n σ A else .next σ A
mutual
noncomputable def evS : S → Sl → AH → Out
  | .asg t e, σ, A => (evE c e σ A).out fun v A => (evTg c t v σ A).out fun σ A => .next σ A
  | .par i j a b, σ, A => (evE c a σ A).out fun x A => (evE c b σ A).out fun y A => .next ((σ.set i (some x)).set j (some y)) A
  | .aug i o e, σ, A => match σ[i]? with
    | some (some x) => (evE c e σ A).out fun y A => (aAug o x y A).out fun z A => .next (σ.set i (some z)) A
    | _ => .bad
  | .augs o i op e, σ, A => (evE c o σ A).out fun x A => (evE c i σ A).out fun y A => if mthTy .append x A then (match aIx x y A with
    | some v => (evE c e σ A).out fun w A => (aAug op v w A).out fun z A => match aSet x y z A with | some A' => .next σ A' | none => .bad
    | none => .bad) else .bad
  | .expr e, σ, A => (evE c e σ A).out fun _ A => .next σ A
  | .ret e, σ, A => (evE c e σ A).out fun v A => .ret v A
  | .if_ q a b, σ, A => (evT c q σ A).out fun k A => if k then evSs a σ A else evSs b σ A
  | .for_ t it b, σ, A => (evI c it σ A).out fun m A => forGo m.chk (fun x σ A => evTg c t x σ A) (fun σ A => evSs b σ A) m.items σ A
  | .while_ q b, σ, A => whGo (fun σ A => evT c q σ A) (fun σ A => evSs b σ A) c.fuel σ A
  | .pass, σ, A => .next σ A
  | .brk, σ, A => .brk σ A
  | .cont, σ, A => .cont σ A
noncomputable def evSs : List S → Sl → AH → Out
  | [], σ, A => .next σ A
  | s :: r, σ, A => (evS s σ A).seq fun σ A => evSs r σ A
end
structure FnD where
  np : Nat
  ns : Nat
  body : List S
noncomputable def run (P : Str → Option FnD) (gl : Str → Option AV) (fuel : Nat) : Nat → Str → List AV → AH → Res AV
  | 0, _, _, _ => .bad
  | k + 1, f, xs, A => match P f with
    | some d => if xs.length = d.np then (match evSs ⟨run P gl fuel k, gl, fuel⟩ d.body (xs.map some ++ List.replicate (d.ns - d.np) none) A with
      | .next _ A => .ok .non A | .ret v A => .ok v A | _ => .bad) else .bad
    | none => .bad
example (v σ A) : evE c (.lit v) σ A = .ok v A := rfl
example (a b σ A) : evE c (.bin .add a b) σ A = (evE c a σ A).bind fun x A => (evE c b σ A).bind fun y A => aBin .add x y A := rfl
example (a b σ A) : evS c (.if_ a b []) σ A = (evT c a σ A).out fun k A => if k then evSs c b σ A else .next σ A := rfl
end Ev


set_option linter.all false
set_option maxRecDepth 100000
namespace Ev
open PySem PySem.Spec PyProof.Rows L2

/-! ### the abstract state and the hand layer's -/
/-- a list that nobody writes -/
def SqF (K : PySem.W.Frag) (H : Hp) (a : Addr) (xs : List V) : Prop := (∃ o, H a = some (.frz o (.lst xs))) ∨
  ∃ (o : Obj) (its : Array Value) (n : Nat), K.lookup a = some o ∧ o.cls = .type "list" ∧ o.dict = none ∧ o.data = .seq its n ∧ its.size ≤ sizeLine ∧ Vals xs its.toList
theorem SqF.l {K : PySem.W.Frag} {H : Hp} {a : Addr} {xs : List V} (h : SqF K H a xs) : SqL K H a xs := h.elim (fun ⟨o, e⟩ => .inl (.inr ⟨o, e⟩)) .inr
mutual
inductive RV (K : PySem.W.Frag) (H : Hp) (m : List Addr) : AV → V → Prop
  | non : RV K H m .non .non
  | bl (b : Bool) : RV K H m (.bl b) (.bl b)
  | int (i : Int) : RV K H m (.int i) (.int i)
  | str (x : Str) : RV K H m (.str x) (.str x)
  | ty (n : String) : RV K H m (.ty n) (.ty n)
  | tup {xs : List AV} {a : Addr} {ys : List V} (h : SqT K H a ys) (hs : RVs K H m xs ys) : RV K H m (.tup xs) (.ref a)
  | fl {xs : List AV} {a : Addr} {ys : List V} (h : SqF K H a ys) (hs : RVs K H m xs ys) : RV K H m (.fl xs) (.ref a)
  | ref {n : Nat} {a : Addr} (h : m[n]? = some a) : RV K H m (.ref n) (.ref a)
inductive RVs (K : PySem.W.Frag) (H : Hp) (m : List Addr) : List AV → List V → Prop
  | nil : RVs K H m [] []
  | cons {x : AV} {y : V} {xs : List AV} {ys : List V} (h : RV K H m x y) (hs : RVs K H m xs ys) : RVs K H m (x :: xs) (y :: ys)
end
/-- what stands at the address of an abstract object -/
def RO (K : PySem.W.Frag) (H : Hp) (m : List Addr) (a : Addr) : AO → Prop
  | .lst xs => ∃ ys, H a = some (.lst ys) ∧ RVs K H m xs ys
  | .dK kvs => ∃ ws, H a = some (.dK ws) ∧ Paired (fun (p : Key × AV) (q : Key × V) => p.1 = q.1 ∧ RV K H m p.2 q.2) kvs ws
  | .dT kvs => ∃ ws, H a = some (.dT ws) ∧ Paired (fun (p : List Key × AV) (q : List Key × V) => p.1 = q.1 ∧ RV K H m p.2 q.2) kvs ws
structure RelH (K : PySem.W.Frag) (m : List Addr) (A : AH) (H : Hp) : Prop where
  len : m.length = A.length
  nd : m.Nodup
  at_ : ∀ (n : Nat) (a : Addr) (o : AO), m[n]? = some a → A[n]? = some o → RO K H m a o
def RSl (K : PySem.W.Frag) (H : Hp) (m : List Addr) (aσ : Sl) (σ : L2.St) : Prop :=
  aσ.length = σ.length ∧ ∀ (i : Nat) (v : AV), aσ[i]? = some (some v) → ∃ x, σ[i]? = some (some x) ∧ RV K H m v x
/-- a run from (m, H) to (m', H'): the objects of m alone are changed -/
structure Tr (m : List Addr) (H : Hp) (m' : List Addr) (H' : Hp) : Prop where
  pre : m <+: m'
  new : ∀ b ∈ m', b ∉ m → H b = none
  keep : ∀ b o, H b = some o → b ∉ m → H' b = some o
  tups : ∀ b o, H b = some o → (∀ xs, o = .tup xs → H' b = some o) ∧ (∀ q u, o = .frz q u → H' b = some o)

section
variable {K : PySem.W.Frag} {m m' m'' : List Addr} {A A' : AH} {H H' H'' : Hp} {a b : Addr}
theorem Tr.refl : Tr m H m H := ⟨List.prefix_refl _, fun b h n => absurd h n, fun _ _ h _ => h, fun b o h => ⟨fun _ _ => h, fun _ _ _ => h⟩⟩
theorem Tr.trans (t : Tr m H m' H') (u : Tr m' H' m'' H'') : Tr m H m'' H'' where
  pre := t.pre.trans u.pre
  new := fun b h n => by
    by_cases hb : b ∈ m'
    · exact t.new b hb n
    · have e := u.new b h hb
      cases q : H b with
      | none => rfl
      | some o =>
        have := t.keep b o q n
        rw [e] at this; cases this
  keep := fun b o h n => by
    have h1 := t.keep b o h n
    refine u.keep b o h1 fun hb => ?_
    have := t.new b hb n
    rw [h] at this; cases this
  tups := fun b o h => ⟨fun xs e => (u.tups b o ((t.tups b o h).1 xs e)).1 xs e, fun q v e => (u.tups b o ((t.tups b o h).2 q v e)).2 q v e⟩
theorem Tr.getM (t : Tr m H m' H') {n : Nat} (h : m[n]? = some a) : m'[n]? = some a := by
  obtain ⟨r, e⟩ := t.pre
  subst e
  rw [List.getElem?_append_left (List.getElem?_eq_some_iff.mp h).1]
  exact h
theorem Tr.rd (t : Tr m H m' H') {xs : List V} (h : Rd H a (.tup xs)) : Rd H' a (.tup xs) := by
  rcases h with h | ⟨o, h⟩
  · exact .inl ((t.tups a _ h).1 xs rfl)
  · exact .inr ⟨o, (t.tups a _ h).2 o _ rfl⟩
theorem Tr.sqT (t : Tr m H m' H') {xs : List V} (h : SqT K H a xs) : SqT K H' a xs := by
  rcases h with h | h
  · exact .inl (t.rd h)
  · exact .inr h
/-- what a value's description leans on stays -/
structure Stay (K : PySem.W.Frag) (m : List Addr) (H : Hp) (m' : List Addr) (H' : Hp) : Prop where
  g : ∀ (n : Nat) (a : Addr), m[n]? = some a → m'[n]? = some a
  s : ∀ (a : Addr) (xs : List V), SqT K H a xs → SqT K H' a xs
  f : ∀ (a : Addr) (xs : List V), SqF K H a xs → SqF K H' a xs
theorem Tr.sqF (t : Tr m H m' H') {xs : List V} (h : SqF K H a xs) : SqF K H' a xs := h.elim (fun ⟨o, e⟩ => .inl ⟨o, (t.tups a _ e).2 o _ rfl⟩) .inr
theorem Tr.stay (t : Tr m H m' H') : Stay K m H m' H' := ⟨fun _ _ h => t.getM h, fun _ _ h => t.sqT h, fun _ _ h => t.sqF h⟩
mutual
theorem RV.mono0 (t : Stay K m H m' H') : ∀ {x : AV} {y : V}, RV K H m x y → RV K H' m' x y
  | _, _, .non => .non
  | _, _, .bl b => .bl b
  | _, _, .int i => .int i
  | _, _, .str x => .str x
  | _, _, .ty n => .ty n
  | _, _, .tup h hs => .tup (t.s _ _ h) (RVs.mono0 t hs)
  | _, _, .fl h hs => .fl (t.f _ _ h) (RVs.mono0 t hs)
  | _, _, .ref h => .ref (t.g _ _ h)
theorem RVs.mono0 (t : Stay K m H m' H') : ∀ {x : List AV} {y : List V}, RVs K H m x y → RVs K H' m' x y
  | _, _, .nil => .nil
  | _, _, .cons h hs => .cons (RV.mono0 t h) (RVs.mono0 t hs)
end
theorem RV.mono {x : AV} {y : V} (r : RV K H m x y) (t : Tr m H m' H') : RV K H' m' x y := RV.mono0 t.stay r
theorem RVs.mono {x : List AV} {y : List V} (r : RVs K H m x y) (t : Tr m H m' H') : RVs K H' m' x y := RVs.mono0 t.stay r
theorem RVs.length : ∀ {xs : List AV} {ys : List V}, RVs K H m xs ys → xs.length = ys.length
  | _, _, .nil => rfl
  | _, _, .cons _ hs => by rw [List.length_cons, List.length_cons, hs.length]
theorem RVs.get : ∀ {xs : List AV} {ys : List V} {i : Nat} {x : AV}, RVs K H m xs ys → xs[i]? = some x → ∃ y, ys[i]? = some y ∧ RV K H m x y
  | _, _, _, _, .nil, e => by simp at e
  | _, _, 0, _, .cons h _, e => by simp at e; subst e; exact ⟨_, rfl, h⟩
  | _, _, i + 1, _, .cons _ hs, e => by
    obtain ⟨y, h1, h2⟩ := hs.get (i := i) (by simpa using e)
    exact ⟨y, by simpa using h1, h2⟩
theorem RVs.append : ∀ {xs us : List AV} {ys ws : List V}, RVs K H m xs ys → RVs K H m us ws → RVs K H m (xs ++ us) (ys ++ ws)
  | _, _, _, _, .nil, s => s
  | _, _, _, _, .cons h hs, s => .cons h (hs.append s)
theorem RVs.one {x : AV} {y : V} (h : RV K H m x y) : RVs K H m [x] [y] := .cons h .nil
theorem RVs.take : ∀ {xs : List AV} {ys : List V} (n : Nat), RVs K H m xs ys → RVs K H m (xs.take n) (ys.take n)
  | _, _, 0, _ => .nil
  | _, _, _ + 1, .nil => .nil
  | _, _, n + 1, .cons h hs => .cons h (hs.take n)
theorem RVs.drop : ∀ {xs : List AV} {ys : List V} (n : Nat), RVs K H m xs ys → RVs K H m (xs.drop n) (ys.drop n)
  | _, _, 0, h => h
  | _, _, _ + 1, .nil => .nil
  | _, _, n + 1, .cons _ hs => hs.drop n
theorem RVs.set {x : AV} {y : V} (h : RV K H m x y) : ∀ {xs : List AV} {ys : List V} (n : Nat), RVs K H m xs ys → RVs K H m (xs.set n x) (ys.set n y)
  | _, _, _, .nil => .nil
  | _, _, 0, .cons _ hs => .cons h hs
  | _, _, n + 1, .cons q hs => .cons q (RVs.set h n hs)
theorem RVs.eraseIdx : ∀ {xs : List AV} {ys : List V} (n : Nat), RVs K H m xs ys → RVs K H m (xs.eraseIdx n) (ys.eraseIdx n)
  | _, _, _, .nil => .nil
  | _, _, 0, .cons _ hs => hs
  | _, _, n + 1, .cons q hs => .cons q (hs.eraseIdx n)
theorem RVs.reverse : ∀ {xs : List AV} {ys : List V}, RVs K H m xs ys → RVs K H m xs.reverse ys.reverse
  | _, _, .nil => .nil
  | _, _, .cons h hs => by rw [List.reverse_cons, List.reverse_cons]; exact hs.reverse.append (.one h)
theorem RVs.rep {xs : List AV} {ys : List V} (h : RVs K H m xs ys) : ∀ n : Nat, RVs K H m (List.replicate n xs).flatten (List.replicate n ys).flatten
  | 0 => .nil
  | n + 1 => by rw [List.replicate_succ, List.replicate_succ, List.flatten_cons, List.flatten_cons]; exact h.append (h.rep n)
theorem RVs.dropLast {xs : List AV} {ys : List V} (h : RVs K H m xs ys) : RVs K H m xs.dropLast ys.dropLast := by
  rw [List.dropLast_eq_take, List.dropLast_eq_take, h.length]; exact h.take _
theorem RVs.ofInts : ∀ {xs : List AV} {ys : List V} {ns : List Int}, RVs K H m xs ys → intsOf xs = some ns → ys = ns.map V.int
  | _, _, ns, .nil, e => by simp [intsOf] at e; subst e; rfl
  | _, _, ns, .cons (xs := xs) h hs, e => by
    cases h with
    | int i =>
      simp only [intsOf] at e
      cases q : intsOf xs with
      | none => rw [q] at e; cases e
      | some ms =>
        rw [q] at e; cases e
        rw [hs.ofInts q]; rfl
    | _ => simp [intsOf] at e
theorem RVs.ofBools : ∀ {xs : List AV} {ys : List V} {ns : List Bool}, RVs K H m xs ys → boolsOf xs = some ns → ys = ns.map V.bl
  | _, _, ns, .nil, e => by simp [boolsOf] at e; subst e; rfl
  | _, _, ns, .cons (xs := xs) h hs, e => by
    cases h with
    | bl i =>
      simp only [boolsOf] at e
      cases q : boolsOf xs with
      | none => rw [q] at e; cases e
      | some ms =>
        rw [q] at e; cases e
        rw [hs.ofBools q]; rfl
    | _ => simp [boolsOf] at e
mutual
theorem RV.dp : ∀ {x : AV} {y : V} {d : PyData}, RV K H m x y → pd0 x = some d → Dp K H y d
  | _, _, _, .non, e => by simp [pd0] at e; subst e; exact .non
  | _, _, _, .bl b, e => by simp [pd0] at e; subst e; exact .bl b
  | _, _, _, .int i, e => by simp [pd0] at e; subst e; exact .int i
  | _, _, _, .str x, e => by simp [pd0] at e; subst e; exact .str x
  | _, _, _, .ty n, e => by simp [pd0] at e
  | _, _, _, .tup (xs := xs) h hs, e => by
    simp only [pd0] at e
    cases q : pds xs with
    | none => rw [q] at e; cases e
    | some ds => rw [q] at e; cases e; exact .tup h (RVs.dp hs q)
  | _, _, _, .fl h hs, e => by simp [pd0] at e
  | _, _, _, .ref h, e => by simp [pd0] at e
theorem RVs.dp : ∀ {x : List AV} {y : List V} {d : List PyData}, RVs K H m x y → pds x = some d → DpAll K H y d
  | _, _, _, .nil, e => by simp [pds] at e; subst e; exact .nil
  | _, _, _, .cons (x := x) (xs := xs) h hs, e => by
    simp only [pds] at e
    cases q : pd0 x with
    | none => rw [q] at e; simp at e
    | some d =>
      cases q2 : pds xs with
      | none => rw [q, q2] at e; simp at e
      | some ds => rw [q, q2] at e; simp at e; subst e; exact .cons (RV.dp h q) (RVs.dp hs q2)
end

/-! ### the heap -/
theorem RelH.obj (R : RelH K m A H) {n : Nat} {o : AO} (h : A[n]? = some o) : ∃ a, m[n]? = some a ∧ RO K H m a o := by
  have hl : n < A.length := (List.getElem?_eq_some_iff.mp h).1
  have e : m[n]? = some (m[n]'(by rw [R.len]; exact hl)) := List.getElem?_eq_getElem _
  exact ⟨_, e, R.at_ n _ o e h⟩
theorem RelH.of (R : RelH K m A H) {n : Nat} {a : Addr} {o : AO} (hm : m[n]? = some a) (h : A[n]? = some o) : RO K H m a o := R.at_ n a o hm h
theorem RelH.there (R : RelH K m A H) (h : a ∈ m) : ∃ u, H a = some u ∧ (∀ xs, u ≠ .tup xs) := by
  obtain ⟨n, hn, e⟩ := List.getElem_of_mem h
  have hm : m[n]? = some a := by rw [List.getElem?_eq_getElem hn, e]
  have hA : A[n]? = some (A[n]'(by rw [← R.len]; exact hn)) := List.getElem?_eq_getElem _
  have := R.at_ n a _ hm hA
  cases q : A[n]'(by rw [← R.len]; exact hn) with
  | lst xs => rw [q] at this; obtain ⟨ys, e, _⟩ := this; exact ⟨_, e, fun _ z => nomatch z⟩
  | dK xs => rw [q] at this; obtain ⟨ys, e, _⟩ := this; exact ⟨_, e, fun _ z => nomatch z⟩
  | dT xs => rw [q] at this; obtain ⟨ys, e, _⟩ := this; exact ⟨_, e, fun _ z => nomatch z⟩
theorem RelH.fresh (R : RelH K m A H) (h : H a = none) : a ∉ m := fun z => by
  obtain ⟨u, e, _⟩ := R.there z
  rw [h] at e; cases e
/-- a new concrete object that is not taken up -/
theorem Tr.more (R : RelH K m A H) {o : HO} (h : H a = none) : Tr m H m (upd H a o) where
  pre := List.prefix_refl _
  new := fun b hb n => absurd hb n
  keep := fun b u e _ => by rw [upd_ne (ne_of_none e h)]; exact e
  tups := fun b u e => ⟨fun _ _ => by rw [upd_ne (ne_of_none e h)]; exact e, fun _ _ _ => by rw [upd_ne (ne_of_none e h)]; exact e⟩
theorem RO.mono0 (t : Stay K m H m' H') {o : AO} (e : H' a = H a) (h : RO K H m a o) : RO K H' m' a o := by
  cases o with
  | lst xs => obtain ⟨ys, e1, r⟩ := h; exact ⟨ys, e.trans e1, r.mono0 t⟩
  | dK xs => obtain ⟨ys, e1, r⟩ := h; exact ⟨ys, e.trans e1, Paired.mapP r fun p q z => ⟨z.1, z.2.mono0 t⟩⟩
  | dT xs => obtain ⟨ys, e1, r⟩ := h; exact ⟨ys, e.trans e1, Paired.mapP r fun p q z => ⟨z.1, z.2.mono0 t⟩⟩
theorem RO.mono (t : Tr m H m' H') {o : AO} (e : H' a = H a) (h : RO K H m a o) : RO K H' m' a o := h.mono0 t.stay e
theorem RelH.more (R : RelH K m A H) {o : HO} (h : H a = none) : RelH K m A (upd H a o) where
  len := R.len
  nd := R.nd
  at_ := fun n b u hm hA => (R.at_ n b u hm hA).mono (Tr.more R h) (upd_ne fun z => R.fresh h (z ▸ List.mem_of_getElem? hm))
/-- a new concrete object taken up as a new abstract one -/
theorem Tr.take (R : RelH K m A H) {o : HO} (h : H a = none) : Tr m H (m ++ [a]) (upd H a o) where
  pre := List.prefix_append _ _
  new := fun b hb n => by
    rcases List.mem_append.mp hb with z | z
    · exact absurd z n
    · have e : b = a := by simpa using z
      subst e; exact h
  keep := (Tr.more R h).keep
  tups := (Tr.more R h).tups
/-- an object that stands apart is taken up -/
theorem Tr.adopt (t : Tr m H m' H') (h : H a = none) : Tr m H (m' ++ [a]) H' where
  pre := t.pre.trans (List.prefix_append _ _)
  new := fun b hb n => by
    rcases List.mem_append.mp hb with z | z
    · exact t.new b z n
    · have e : b = a := by simpa using z
      subst e; exact h
  keep := t.keep
  tups := t.tups
theorem RelH.adopt (R : RelH K m A H) {o : AO} (h : a ∉ m) (ho : RO K H (m ++ [a]) a o) : RelH K (m ++ [a]) (A ++ [o]) H where
  len := by rw [List.length_append, List.length_append, R.len]; rfl
  nd := by
    rw [List.nodup_append]
    refine ⟨R.nd, by simp, fun x hx y hy e => ?_⟩
    have e2 : y = a := by simpa using hy
    subst e2 e; exact h hx
  at_ := fun n b u hm hA => by
    by_cases hn : n < A.length
    · rw [List.getElem?_append_left hn] at hA
      rw [List.getElem?_append_left (by rw [R.len]; exact hn)] at hm
      exact (R.at_ n b u hm hA).mono0 ⟨fun i c e => by rw [List.getElem?_append_left (List.getElem?_eq_some_iff.mp e).1]; exact e, fun _ _ e => e, fun _ _ e => e⟩ rfl
    · have e : n = A.length := by
        have := (List.getElem?_eq_some_iff.mp hA).1
        rw [List.length_append, List.length_singleton] at this
        omega
      subst e
      rw [List.getElem?_append_right (Nat.le_refl _)] at hA
      rw [← R.len, List.getElem?_append_right (Nat.le_refl _)] at hm
      simp at hA hm
      subst hA hm
      exact ho
end
end Ev


set_option linter.all false
set_option maxRecDepth 100000
namespace Ev
open PySem PySem.Spec PyProof.Rows L2

def FG {α : Type} (K : PySem.W.Frag) (m : List Addr) (H : Hp) (r : Res α) (P : α → AH → List Addr → Hp → Prop) : Prop :=
  match r with
  | .ok v A' => ∀ m' H', Tr m H m' H' → RelH K m' A' H' → P v A' m' H'
  | .bad => False
def Fin (K : PySem.W.Frag) (m : List Addr) (H : Hp) (r : Res AV) (Q : VK) : Prop := FG K m H r fun v _ m' H' => ∀ x, RV K H' m' v x → Q x H'
def FinT (K : PySem.W.Frag) (m : List Addr) (H : Hp) (r : Res Bool) (Q : Bool → Hp → Prop) : Prop := FG K m H r fun k _ _ H' => Q k H'
theorem FG.shift {α : Type} {K : PySem.W.Frag} {m m1 : List Addr} {H H1 : Hp} {r : Res α} {P : α → AH → List Addr → Hp → Prop} (h : FG K m H r P) (t : Tr m H m1 H1) : FG K m1 H1 r P := by
  cases r with
  | ok a A => exact fun m' H' t' R' => h m' H' (t.trans t') R'
  | bad => exact h
theorem FG.bind {α β : Type} {K : PySem.W.Frag} {m : List Addr} {H : Hp} {r : Res α} {f : α → AH → Res β} {P : β → AH → List Addr → Hp → Prop} (h : FG K m H (r.bind f) P) : FG K m H r fun a A1 m1 H1 => FG K m1 H1 (f a A1) P := by
  cases r with
  | ok a A => exact fun m' H' t' R' => FG.shift (r := f a A) h t'
  | bad => exact h
theorem FG.imp {α : Type} {K : PySem.W.Frag} {m : List Addr} {H : Hp} {r : Res α} {P P' : α → AH → List Addr → Hp → Prop} (h : FG K m H r P) (f : ∀ a A' m' H', Tr m H m' H' → RelH K m' A' H' → P a A' m' H' → P' a A' m' H') : FG K m H r P' := by
  cases r with
  | ok a A => exact fun m' H' t' R' => f a A m' H' t' R' (h m' H' t' R')
  | bad => exact h
def opOf : BOp → Operator
  | .add => .Add | .sub => .Sub | .mul => .Mult | .fdiv => .FloorDiv | .mod => .Mod | .pow => .Pow | .shl => .LShift | .shr => .RShift | .band => .BitAnd
def cmOf : COp → CmpOp
  | .eq => .Eq | .ne => .NotEq | .lt => .Lt | .le => .LtE | .gt => .Gt | .ge => .GtE | .is_ => .Is | .isnot => .IsNot | .in_ => .In | .notin => .NotIn
def rBin (K : PySem.W.Frag) (f : AV → AV → AH → Res AV) : R2 := fun x y H Q => ∃ m A ax ay, RelH K m A H ∧ RV K H m ax x ∧ RV K H m ay y ∧ Fin K m H (f ax ay A) Q
def rCmp (K : PySem.W.Frag) (f : AV → AV → AH → Option Bool) : R2 := fun x y H Q => ∃ m A ax ay k, RelH K m A H ∧ RV K H m ax x ∧ RV K H m ay y ∧ f ax ay A = some k ∧ Q (.bl k) H

section
variable {X : Cx} {m : List Addr} {A : AH} {H : Hp}
theorem Fin.here {v : AV} {x : V} {Q : VK} {K : PySem.W.Frag} (R : RelH K m A H) (h : Fin K m H (.ok v A) Q) (r : RV K H m v x) : Q x H := h m H Tr.refl R x r
/-- a new tuple -/
theorem Fin.tupNew {xs : List AV} {ys : List V} {p : Addr} {Q : VK} {K : PySem.W.Frag} (R : RelH K m A H) (h : Fin K m H (.ok (.tup xs) A) Q) (r : RVs K H m xs ys) (np : H p = none) : Q (.ref p) (upd H p (.tup ys)) :=
  h m _ (Tr.more R np) (R.more np) _ (.tup (.of upd_same) (r.mono (Tr.more R np)))
/-- a new list, taken up -/
theorem Fin.lstNew {xs : List AV} {ys : List V} {p : Addr} {Q : VK} {K : PySem.W.Frag} (R : RelH K m A H) (h : Fin K m H (.ok (.ref A.length) (A ++ [.lst xs])) Q) (r : RVs K H m xs ys) (np : H p = none) : Q (.ref p) (upd H p (.lst ys)) := by
  have t1 : Tr m H m (upd H p (.lst ys)) := Tr.more R np
  have t2 : Tr m H (m ++ [p]) (upd H p (.lst ys)) := Tr.take R np
  refine h (m ++ [p]) _ t2 ((R.more np).adopt (R.fresh np) ⟨ys, upd_same, r.mono t2⟩) _ (.ref ?_)
  rw [← R.len, List.getElem?_append_right (Nat.le_refl _)]; simp
/-- an object is written -/
theorem RelH.put {K : PySem.W.Frag} (R : RelH K m A H) {n : Nat} {a : Addr} {o : AO} {u : HO} (hm : m[n]? = some a) (hu : ∀ H', (∀ b, b ≠ a → H' b = H b) → H' a = some u → Stay K m H m H' → RO K H' m a o)
    (hn : ∀ xs, H a ≠ some (.tup xs)) (hf : ∀ q v, H a ≠ some (.frz q v)) : Tr m H m (upd H a u) ∧ RelH K m (A.set n o) (upd H a u) := by
  have am : a ∈ m := List.mem_of_getElem? hm
  have t : Tr m H m (upd H a u) := by
    refine ⟨List.prefix_refl _, fun b hb n => absurd hb n, fun b v e nb => ?_, fun b v e => ⟨fun xs z => ?_, fun q v z => ?_⟩⟩
    · rw [upd_ne (fun (z : b = a) => nb (by rw [z]; exact am))]; exact e
    · rw [upd_ne (fun (y : b = a) => hn xs (by rw [← y, e, z]))]; exact e
    · rw [upd_ne (fun (y : b = a) => hf q v (by rw [← y, e, z]))]; exact e
  refine ⟨t, ⟨by rw [List.length_set]; exact R.len, R.nd, fun i b v hb hv => ?_⟩⟩
  by_cases hi : i = n
  · subst hi
    rw [hm] at hb; cases hb
    rw [List.getElem?_set_self (by rw [← R.len]; exact (List.getElem?_eq_some_iff.mp hm).1)] at hv
    cases hv
    exact hu _ (fun b h => upd_ne h) upd_same t.stay
  · rw [List.getElem?_set_ne (Ne.symm hi)] at hv
    refine (R.at_ i b v hb hv).mono t (upd_ne fun z => hi ?_)
    subst z
    have h1 := (List.getElem?_eq_some_iff.mp hb)
    have h2 := (List.getElem?_eq_some_iff.mp hm)
    exact (List.getElem_inj R.nd).mp (h1.2.trans h2.2.symm)
theorem RelH.putL {K : PySem.W.Frag} (R : RelH K m A H) {n : Nat} {a : Addr} {xs : List AV} {ys zs : List V} (hm : m[n]? = some a) (hl : H a = some (.lst zs)) (r : RVs K H m xs ys) :
    Tr m H m (upd H a (.lst ys)) ∧ RelH K m (A.set n (.lst xs)) (upd H a (.lst ys)) :=
  R.put hm (fun H' _ e st => ⟨ys, e, RVs.mono0 st r⟩) (fun xs e => by rw [hl] at e; cases e) (fun q v e => by rw [hl] at e; cases e)
theorem RelH.seq {K : PySem.W.Frag} (R : RelH K m A H) {x : AV} {y : V} {xs : List AV} (r : RV K H m x y) (h : seqOf A x = some xs) : ∃ a ys, y = .ref a ∧ (SqL K H a ys ∨ SqT K H a ys) ∧ RVs K H m xs ys := by
  cases r with
  | tup ht hs => simp only [seqOf, Option.some.injEq] at h; subst h; exact ⟨_, _, rfl, .inr ht, hs⟩
  | fl ht hs => simp only [seqOf, Option.some.injEq] at h; subst h; exact ⟨_, _, rfl, .inl ht.l, hs⟩
  | @ref n a hm =>
    simp only [seqOf] at h
    cases q : A[n]? with
    | none => rw [q] at h; cases h
    | some o =>
      rw [q] at h
      have ro := R.of hm q
      cases o with
      | lst ys => simp only [Option.some.injEq] at h; subst h; obtain ⟨zs, e, r⟩ := ro; exact ⟨a, zs, rfl, .inl (.of e), r⟩
      | _ => cases h
  | _ => cases h
theorem two_le {k : Int} : k ≤ 1000 → (2 : Int) ≤ k → k.toNat = k.toNat := fun _ _ => rfl

theorem op_bin {o : BOp} : OpR X (binaryOp (opOf o)) (rBin X.K (aBin o)) := by
  rintro pins s σ H x y v u Q I rx ry ⟨m, A, ax, ay, R, hx, hy, fin⟩
  cases o with
  | add =>
    cases hx with
    | int i =>
      cases hy with
      | int j => exact op_add pins s σ H _ _ v u Q I rx ry ⟨i, j, rfl, rfl, fin.here R (.int _)⟩
      | _ => exact False.elim fin
    | str i =>
      cases hy with
      | str j =>
        simp only [aBin] at fin
        split at fin
        · rename_i hz; exact op_add_str pins s σ H _ _ v u Q I rx ry ⟨i, j, rfl, rfl, hz, fin.here R (.str _)⟩
        · exact False.elim fin
      | _ => exact False.elim fin
    | @tup xs a ys ha hs =>
      cases hy with
      | @tup zs b ws hb hr =>
        simp only [aBin] at fin
        split at fin
        · rename_i hz
          rw [hs.length, hr.length] at hz
          refine op_catA pins s σ H _ _ v u Q I rx ry ⟨a, b, ys, ws, rfl, rfl, ha, hb, hz, fun e => ?_, fun _ e => ?_, fun _ _ p np => fin.tupNew R (hs.append hr) np⟩
          · subst e
            have e2 : xs = [] := List.length_eq_zero_iff.mp hs.length
            subst e2
            exact fin.here R (.tup hb hr)
          · subst e
            have e2 : zs = [] := List.length_eq_zero_iff.mp hr.length
            subst e2
            rw [List.append_nil] at fin
            exact fin.here R (.tup ha hs)
        · exact False.elim fin
      | _ => exact False.elim fin
    | @ref n a hn =>
      cases hy with
      | @ref k b hk =>
        simp only [aBin] at fin
        split at fin
        · rename_i xs ys e1 e2
          split at fin
          · rename_i hz
            obtain ⟨us, f1, r1⟩ := R.of hn e1
            obtain ⟨ws, f2, r2⟩ := R.of hk e2
            rw [r1.length, r2.length] at hz
            exact op_cat pins s σ H _ _ v u Q I rx ry ⟨a, b, us, ws, rfl, rfl, f1, f2, hz, fun p np => fin.lstNew R (r1.append r2) np⟩
          · exact False.elim fin
        · exact False.elim fin
      | _ => exact False.elim fin
    | _ => exact False.elim fin
  | sub =>
    cases hx with
    | int i =>
      cases hy with
      | int j => exact op_sub pins s σ H _ _ v u Q I rx ry ⟨i, j, rfl, rfl, fin.here R (.int _)⟩
      | _ => exact False.elim fin
    | _ => exact False.elim fin
  | mul =>
    cases hx with
    | int i =>
      cases hy with
      | int j =>
        simp only [aBin] at fin
        split at fin
        · rename_i hz
          have q := fin.here R (.int _)
          simp only [mulOk, Bool.or_eq_true, Bool.and_eq_true, decide_eq_true_eq] at hz
          rcases hz with (hz | hz) | hz
          · exact op_mul pins s σ H _ _ v u Q I rx ry ⟨i, j, rfl, rfl, .inl hz, q⟩
          · exact op_mul pins s σ H _ _ v u Q I rx ry ⟨i, j, rfl, rfl, .inr hz, q⟩
          · exact op_mulW pins s σ H _ _ v u Q I rx ry ⟨i, j, rfl, rfl, hz, q⟩
        · exact False.elim fin
      | _ => exact False.elim fin
    | @tup xs a ys ha hs =>
      cases hy with
      | int k =>
        simp only [aBin] at fin
        split at fin
        · rename_i hz
          obtain ⟨h1, h2, h3, h4⟩ := hz
          rw [hs.length] at h4
          refine op_repT pins s σ H _ _ v u Q I rx ry ⟨a, k, ys, rfl, rfl, ha, fun e => h1 ?_, h2, h3, h4, fun p np => fin.tupNew R (hs.rep _) np⟩
          subst e; exact List.length_eq_zero_iff.mp hs.length
        · exact False.elim fin
      | _ => exact False.elim fin
    | @ref n a hn =>
      cases hy with
      | int k =>
        simp only [aBin] at fin
        split at fin
        · rename_i xs e1
          split at fin
          · rename_i hz
            obtain ⟨us, f1, r1⟩ := R.of hn e1
            obtain ⟨h1, h2, h3⟩ := hz
            rw [r1.length] at h3
            exact op_rep pins s σ H _ _ v u Q I rx ry ⟨a, k, us, rfl, rfl, f1, h1, h2, h3, fun p np => fin.lstNew R (r1.rep _) np⟩
          · exact False.elim fin
        · exact False.elim fin
      | _ => exact False.elim fin
    | _ => exact False.elim fin
  | fdiv =>
    cases hx with
    | int i =>
      cases hy with
      | int j =>
        simp only [aBin] at fin
        split at fin
        · rename_i hz
          simp only [divOk, Bool.or_eq_true, Bool.and_eq_true, decide_eq_true_eq] at hz
          rcases hz with hz | hz
          · have h0 : (0 : Int) < j := hz.1
            rw [Int.fdiv_eq_ediv_of_nonneg i (by omega)] at fin
            exact op_fdivW pins s σ H _ _ v u Q I rx ry ⟨i, j, rfl, rfl, hz, fin.here R (.int _)⟩
          · exact op_fdivN pins s σ H _ _ v u Q I rx ry ⟨i, j, rfl, rfl, hz, fin.here R (.int _)⟩
        · exact False.elim fin
      | _ => exact False.elim fin
    | _ => exact False.elim fin
  | mod =>
    cases hx with
    | int i =>
      cases hy with
      | int j =>
        simp only [aBin] at fin
        split at fin
        · rename_i hz
          exact op_modN pins s σ H _ _ v u Q I rx ry ⟨i, j, rfl, rfl, hz, fin.here R (.int _)⟩
        · exact False.elim fin
      | _ => exact False.elim fin
    | _ => exact False.elim fin
  | pow =>
    cases hx with
    | int i =>
      cases hy with
      | int j =>
        simp only [aBin] at fin
        split at fin
        · rename_i hz
          simp only [powOk, Bool.and_eq_true, decide_eq_true_eq] at hz
          exact op_pow pins s σ H _ _ v u Q I rx ry ⟨i, j, rfl, rfl, ⟨hz.1.1, hz.1.2, hz.2⟩, fin.here R (.int _)⟩
        · exact False.elim fin
      | _ => exact False.elim fin
    | _ => exact False.elim fin
  | shl =>
    cases hx with
    | int i =>
      cases hy with
      | int j =>
        simp only [aBin] at fin
        split at fin
        · rename_i hz
          simp only [powOk, Bool.and_eq_true, decide_eq_true_eq] at hz
          exact op_shl pins s σ H _ _ v u Q I rx ry ⟨i, j, rfl, rfl, ⟨hz.1.1, hz.1.2, hz.2⟩, fin.here R (.int _)⟩
        · exact False.elim fin
      | _ => exact False.elim fin
    | _ => exact False.elim fin
  | shr =>
    cases hx with
    | int i =>
      cases hy with
      | int j =>
        simp only [aBin] at fin
        split at fin
        · rename_i hz
          exact op_shr pins s σ H _ _ v u Q I rx ry ⟨i, j, rfl, rfl, hz, fin.here R (.int _)⟩
        · exact False.elim fin
      | _ => exact False.elim fin
    | _ => exact False.elim fin
  | band =>
    cases hx with
    | int i =>
      cases hy with
      | int j => exact op_and pins s σ H _ _ v u Q I rx ry ⟨i, j, rfl, rfl, fin.here R (.int _)⟩
      | _ => exact False.elim fin
    | _ => exact False.elim fin

/-! ### comparisons -/
theorem RelH.dp {K : PySem.W.Frag} (R : RelH K m A H) {x : AV} {y : V} {d : PyData} (r : RV K H m x y) (h : pd A x = some d) : Dp K H y d := by
  cases r with
  | @ref n a hm =>
    simp only [pd] at h
    cases q : A[n]? with
    | none => rw [q] at h; cases h
    | some o =>
      rw [q] at h
      have ro := R.of hm q
      cases o with
      | lst ys =>
        obtain ⟨zs, e, r⟩ := ro
        cases q2 : pds ys with
        | none => simp [q2] at h
        | some ds => simp only [q2, Option.map_some, Option.some.injEq] at h; subst h; exact .lst (.of e) (r.dp q2)
      | _ => cases h
  | @fl xs a ys ht r =>
    simp only [pd] at h
    cases q2 : pds xs with
    | none => simp [q2] at h
    | some ds => simp only [q2, Option.map_some, Option.some.injEq] at h; subst h; exact .lst ht.l (r.dp q2)
  | non => exact RV.dp (m := m) .non (by simpa [pd] using h)
  | bl b => exact RV.dp (m := m) (.bl b) (by simpa [pd] using h)
  | int b => exact RV.dp (m := m) (.int b) (by simpa [pd] using h)
  | str b => exact RV.dp (m := m) (.str b) (by simpa [pd] using h)
  | ty b => exact RV.dp (m := m) (.ty b) (by simpa [pd] using h)
  | tup ht hs => exact RV.dp (.tup ht hs) (by simpa [pd] using h)
theorem RelH.eq {K : PySem.W.Frag} (R : RelH K m A H) {ax ay : AV} {x y : V} {k : Bool} (hx : RV K H m ax x) (hy : RV K H m ay y) (h : aEq A ax ay = some k) :
    ∃ d e, Dp K H x d ∧ Dp K H y e ∧ SeqAt.shaped d = true ∧ SeqAt.shaped e = true ∧ PyData.eqv d e = k := by
  unfold aEq at h
  split at h
  · rename_i d e h1 h2
    split at h
    · rename_i hz
      rw [Bool.and_eq_true] at hz
      exact ⟨d, e, R.dp hx h1, R.dp hy h2, hz.1, hz.2, Option.some.inj h⟩
    · cases h
  · cases h
theorem RV.flat {K : PySem.W.Frag} {x : AV} {y : V} (r : RV K H m x y) (h : flat x = true) : flatV y = true := by cases r <;> first | rfl | cases h
theorem RVs.flat {K : PySem.W.Frag} : ∀ {xs : List AV} {ys : List V}, RVs K H m xs ys → xs.all Ev.flat = true → ys.all flatV = true
  | _, _, .nil, _ => rfl
  | _, _, .cons r rs, h => by
    rw [List.all_cons, Bool.and_eq_true] at h
    rw [List.all_cons, Bool.and_eq_true]
    exact ⟨r.flat h.1, rs.flat h.2⟩
theorem RV.eqFl {K : PySem.W.Frag} {x z : AV} {y w : V} (r : RV K H m x y) (q : RV K H m z w) : eqFl x z = eqV y w := by cases r <;> cases q <;> rfl
theorem RVs.inFl {K : PySem.W.Frag} {z : AV} {w : V} (q : RV K H m z w) : ∀ {xs : List AV} {ys : List V}, RVs K H m xs ys → (xs.any fun y => eqFl y z) = inV w ys
  | _, _, .nil => rfl
  | _, _, .cons r rs => by
    unfold inV
    rw [List.any_cons, List.any_cons, r.eqFl q, rs.inFl q]
    rfl
theorem RV.isNone {K : PySem.W.Frag} {x : AV} {y : V} (r : RV K H m x y) : Ev.isNone x = decide (y = .non) := by cases r <;> simp [Ev.isNone]
theorem in_of {pins : List (Addr × Obj)} {s : Shared} {σ : L2.St} {x y : V} {v u : Value} {Q : VK} {ax ay : AV} {k : Bool} {neg : Bool} (hu : X.A.units + 65 < cLine) (I : Inv X pins σ H s) (rx : RelV x v) (ry : RelV y u)
    (R : RelH X.K m A H) (hx : RV X.K H m ax x) (hy : RV X.K H m ay y) (h : aIn A ax ay = some k) (q : Q (.bl (if neg then !k else k)) H) :
    wpAny (model X.prog X.w) X.A (compareOp (if neg then .NotIn else .In) v u) (EP X pins σ Q) X.xe s := by
  cases hy with
  | str z =>
    cases hx with
    | str i =>
      simp only [aIn, Option.some.injEq] at h
      subst h
      cases neg
      · exact op_in_str pins s σ H _ _ v u Q I rx ry ⟨i, z, rfl, rfl, q⟩
      · exact op_notin_str pins s σ H _ _ v u Q I rx ry ⟨i, z, rfl, rfl, q⟩
    | _ => cases h
  | tup ht hs =>
    simp only [aIn] at h
    split at h
    · rename_i hz
      rw [Bool.and_eq_true] at hz
      have e := Option.some.inj h
      rw [hs.inFl hx] at e
      subst e
      cases neg
      · exact op_in_seq pins s σ H _ _ v u Q I rx ry ⟨_, _, rfl, .inr ht, hx.flat hz.1, hs.flat hz.2, q⟩
      · exact op_notIn_seq pins s σ H _ _ v u Q I rx ry ⟨_, _, rfl, .inr ht, hx.flat hz.1, hs.flat hz.2, q⟩
    · cases h
  | @ref n a hm =>
    simp only [aIn] at h
    split at h
    · rename_i ys d h1 h2
      split at h
      · rename_i ds h3
        split at h
        · rename_i hz
          rw [Bool.and_eq_true] at hz
          have e := Option.some.inj h
          subst e
          have hl : Dp X.K H (.ref a) (.list ds) := by
            refine R.dp (x := .ref n) (.ref hm) ?_
            simp only [seqOf] at h1
            simp only [pd]
            cases q : A[n]? with
            | none => rw [q] at h1; cases h1
            | some o =>
              rw [q] at h1
              cases o with
              | lst zs => simp only [Option.some.injEq] at h1; subst h1; simp only [h3, Option.map_some]
              | _ => cases h1
          cases neg
          · exact op_inD hu pins s σ H _ _ v u Q I rx ry ⟨d, ds, hx.dp h2, hl, hz.1, hz.2, q⟩
          · exact op_notInD hu pins s σ H _ _ v u Q I rx ry ⟨d, ds, hx.dp h2, hl, hz.1, hz.2, q⟩
        · cases h
      · cases h
    · cases h
  | @fl xs a zs ht hs =>
    simp only [aIn, seqOf] at h
    split at h
    · rename_i ys d h1 h2
      cases h1
      split at h
      · rename_i ds h3
        split at h
        · rename_i hz
          rw [Bool.and_eq_true] at hz
          have e := Option.some.inj h
          subst e
          have hl : Dp X.K H (.ref a) (.list ds) := .lst ht.l (hs.dp h3)
          cases neg
          · exact op_inD hu pins s σ H _ _ v u Q I rx ry ⟨d, ds, hx.dp h2, hl, hz.1, hz.2, q⟩
          · exact op_notInD hu pins s σ H _ _ v u Q I rx ry ⟨d, ds, hx.dp h2, hl, hz.1, hz.2, q⟩
        · cases h
      · cases h
    · cases h
  | _ => simp [aIn, seqOf] at h
theorem op_cmp {o : COp} (hu : X.A.units + 65 < cLine) : OpR X (compareOp (cmOf o)) (rCmp X.K (aCmp o)) := by
  rintro pins s σ H x y v u Q I rx ry ⟨m, A, ax, ay, k, R, hx, hy, e, q⟩
  cases o with
  | eq =>
    obtain ⟨d, d', h1, h2, h3, h4, h5⟩ := R.eq hx hy e
    subst h5
    exact op_eqD (by omega) pins s σ H _ _ v u Q I rx ry ⟨d, d', h1, h2, h3, h4, q⟩
  | ne =>
    simp only [aCmp] at e
    cases q2 : aEq A ax ay with
    | none => rw [q2] at e; cases e
    | some k' =>
      rw [q2] at e
      cases e
      obtain ⟨d, d', h1, h2, h3, h4, h5⟩ := R.eq hx hy q2
      subst h5
      exact op_neD (by omega) pins s σ H _ _ v u Q I rx ry ⟨d, d', h1, h2, h3, h4, q⟩
  | lt =>
    cases hx with
    | int i =>
      cases hy with
      | int j => cases e; exact op_lt pins s σ H _ _ v u Q I rx ry ⟨i, j, rfl, rfl, q⟩
      | _ => cases e
    | str i =>
      cases hy with
      | str j => cases e; exact op_lt_str pins s σ H _ _ v u Q I rx ry ⟨i, j, rfl, rfl, q⟩
      | _ => cases e
    | @tup xs a ys ha hs =>
      cases hy with
      | @tup zs b ws hb hr =>
        simp only [aCmp, aLt] at e
        split at e
        · rename_i ns ms h1 h2
          cases e
          have e1 := hs.ofInts h1
          have e2 := hr.ofInts h2
          subst e1 e2
          exact op_ltT (by omega) pins s σ H _ _ v u Q I rx ry ⟨a, b, ns, ms, rfl, rfl, ha, hb, q⟩
        · cases e
      | _ => cases e
    | _ => cases e
  | le =>
    cases hx with
    | int i =>
      cases hy with
      | int j => cases e; exact op_le pins s σ H _ _ v u Q I rx ry ⟨i, j, rfl, rfl, q⟩
      | _ => cases e
    | _ => cases e
  | gt =>
    cases hx with
    | int i =>
      cases hy with
      | int j => cases e; exact op_gt pins s σ H _ _ v u Q I rx ry ⟨i, j, rfl, rfl, q⟩
      | _ => cases e
    | _ => cases e
  | ge =>
    cases hx with
    | int i =>
      cases hy with
      | int j => cases e; exact op_ge pins s σ H _ _ v u Q I rx ry ⟨i, j, rfl, rfl, q⟩
      | _ => cases e
    | _ => cases e
  | is_ =>
    cases hy with
    | non => simp only [aCmp, Option.some.injEq] at e; subst e; rw [hx.isNone] at q; exact op_isN pins s σ H _ _ v u Q I rx ry ⟨rfl, q⟩
    | _ => cases e
  | isnot =>
    cases hy with
    | non => simp only [aCmp, Option.some.injEq] at e; subst e; rw [hx.isNone] at q; exact op_notN pins s σ H _ _ v u Q I rx ry ⟨rfl, q⟩
    | _ => cases e
  | in_ => exact in_of (neg := false) hu I rx ry R hx hy e q
  | notin =>
    simp only [aCmp] at e
    cases q2 : aIn A ax ay with
    | none => rw [q2] at e; cases e
    | some k' =>
      rw [q2] at e
      cases e
      exact in_of (neg := true) hu I rx ry R hx hy q2 q
theorem RelH.truth {K : PySem.W.Frag} (R : RelH K m A H) {x : AV} {y : V} {k : Bool} (r : RV K H m x y) (h : Ev.truth A x = some k) : TruV K y H k := by
  cases r with
  | non => cases h; rfl
  | bl b => cases h; rfl
  | int b => cases h; rfl
  | str b =>
    simp only [Ev.truth] at h
    split at h
    · rename_i hz; cases h; exact ⟨hz, rfl⟩
    · cases h
  | ty b => cases h
  | @tup xs a ys ht hs => cases h; exact .inr (.inl ⟨ys, ht, by cases hs <;> rfl⟩)
  | @fl xs a ys ht hs => cases h; exact .inl ⟨ys, ht.l, by cases hs <;> rfl⟩
  | @ref n a hm =>
    simp only [Ev.truth] at h
    cases q : A[n]? with
    | none => rw [q] at h; cases h
    | some o =>
      rw [q] at h
      have ro := R.of hm q
      cases o with
      | lst ys => cases h; obtain ⟨zs, e, r⟩ := ro; exact .inl ⟨zs, .of e, by cases r <;> rfl⟩
      | dK ys => cases h; obtain ⟨zs, e, r⟩ := ro; exact .inr (.inr ⟨zs, e, by cases r <;> rfl⟩)
      | dT ys => cases h

/-! ### subscripts, slices -/
theorem RVs.atI {K : PySem.W.Frag} {xs : List AV} {ys : List V} {i : Int} {v : AV} (r : RVs K H m xs ys) (h : L2.atI xs i = some v) : ∃ w, L2.atI ys i = some w ∧ RV K H m v w := by
  unfold L2.atI at h ⊢
  rw [r.length] at h
  cases q : ixN ys.length i with
  | none => rw [q] at h; cases h
  | some j => rw [q] at h; exact r.get h
def rIxA (K : PySem.W.Frag) : R2 := fun x y H Q => ∃ m A ax ay v, RelH K m A H ∧ RV K H m ax x ∧ RV K H m ay y ∧ aIx ax ay A = some v ∧ ∀ w, RV K H m v w → Q w H
theorem aIx_seq {ax : AV} {i : Int} {v : AV} (h : aIx ax (.int i) A = some v) : (∃ z c, ax = .str z ∧ z.length ≤ sizeLine ∧ L2.atI z.cps.toList i = some c ∧ v = .str ⟨#[c]⟩) ∨ ∃ xs, seqOf A ax = some xs ∧ L2.atI xs i = some v := by
  cases ax with
  | str z =>
    simp only [aIx] at h
    split at h
    · rename_i hz
      cases q : L2.atI z.cps.toList i with
      | none => rw [q] at h; cases h
      | some c => rw [q] at h; cases h; exact .inl ⟨z, c, rfl, hz, q, rfl⟩
    · cases h
  | tup xs => exact .inr ⟨xs, rfl, by simpa [aIx, seqOf] using h⟩
  | fl xs => exact .inr ⟨xs, rfl, by simpa [aIx, seqOf] using h⟩
  | ref n =>
    simp only [aIx] at h
    cases q : seqOf A (.ref n) with
    | none => rw [q] at h; cases h
    | some xs => rw [q] at h; exact .inr ⟨xs, rfl, h⟩
  | _ => simp [aIx, seqOf] at h
theorem ix_A : IxR X (rIxA X.K) := by
  rintro value slice pins s σ H x y v u Q I rx ry ⟨m, A, ax, ay, w, R, hx, hy, e, q⟩ hs
  cases hy with
  | int i =>
    rcases aIx_seq e with ⟨z, c, rfl, hz, hc, rfl⟩ | ⟨xs, h1, h2⟩
    · cases hx
      exact ix_str value slice pins s σ H _ _ v u Q I rx ry ⟨z, i, c, rfl, rfl, hz, hc, q _ (.str _)⟩ hs
    · obtain ⟨a, ys, rfl, hq, r⟩ := R.seq hx h1
      obtain ⟨w', e2, r2⟩ := r.atI h2
      rcases hq with hq | hq
      · exact ix_list value slice pins s σ H _ _ v u Q I rx ry ⟨a, ys, i, w', rfl, rfl, hq, e2, q _ r2⟩ hs
      · exact ix_tup value slice pins s σ H _ _ v u Q I rx ry ⟨a, ys, i, w', rfl, rfl, hq, e2, q _ r2⟩ hs
  | _ => simp [aIx] at e
theorem RVs.cut {K : PySem.W.Frag} {xs : List AV} {ys : List V} (r : RVs K H m xs ys) (lo hi : Option Int) : RVs K H m (Ev.cut xs lo hi) (cutV ys lo hi) := by
  unfold Ev.cut cutV
  rw [r.length]
  exact (r.drop _).take _
theorem cut_all {α : Type} {xs : List α} {lo hi : Option Int} (h : HT.sIx xs.length 0 lo = 0 ∧ HT.sIx xs.length xs.length hi = xs.length) : Ev.cut xs lo hi = xs := by
  unfold Ev.cut
  rw [h.1, h.2, List.drop_zero, Nat.sub_zero, List.take_length]
def rSlE (K : PySem.W.Frag) : V → Option Int → Option Int → Hp → VK → Prop := fun x lo hi H Q => ∃ m A ax, RelH K m A H ∧ RV K H m ax x ∧ Fin K m H (aSl ax lo hi A) Q
theorem sl_A : SlR X (rSlE X.K) := by
  rintro pins s σ H x v vl vu lo hi sl Q I rx hs pl pu ⟨m, A, ax, R, hx, fin⟩
  cases hx with
  | str z =>
    simp only [aSl] at fin
    split at fin
    · rename_i hz
      exact sl_str pins s σ H _ v vl vu lo hi sl Q I rx hs pl pu ⟨z, rfl, hz, fin.here R (.str _)⟩
    · exact False.elim fin
  | @tup xs a ys ht r =>
    refine sl_tupA pins s σ H _ v vl vu lo hi sl Q I rx hs pl pu ⟨a, ys, rfl, ht, fun e => ?_, fun _ p np => fin.tupNew R (r.cut lo hi) np⟩
    rw [← r.length] at e
    have fin : Fin X.K m H (.ok (.tup (Ev.cut xs lo hi)) A) Q := fin
    rw [cut_all e] at fin
    exact fin.here R (.tup ht r)
  | @fl xs a ys ht r => exact sl_list pins s σ H _ v vl vu lo hi sl Q I rx hs pl pu ⟨a, ys, rfl, ht.l, fun p np => Fin.lstNew R fin (r.cut lo hi) np⟩
  | @ref n a hm =>
    simp only [aSl] at fin
    cases q : A[n]? with
    | none => rw [q] at fin; exact False.elim fin
    | some o =>
      rw [q] at fin
      have ro := R.of hm q
      cases o with
      | lst ys => obtain ⟨zs, e, r⟩ := ro; exact sl_list pins s σ H _ v vl vu lo hi sl Q I rx hs pl pu ⟨a, zs, rfl, .of e, fun p np => fin.lstNew R (r.cut lo hi) np⟩
      | _ => exact False.elim fin
  | _ => exact False.elim fin
/-- o[i] = v -/
theorem set_A : PSet X (fun o i v H Q => ∃ m A ao ai av A', RelH X.K m A H ∧ RV X.K H m ao o ∧ RV X.K H m ai i ∧ RV X.K H m av v ∧ aSet ao ai av A = some A' ∧ ∀ H', Tr m H m H' → RelH X.K m A' H' → Q H') := by
  rintro pins s σ H o i v ov iv u Q I ro ri rv ⟨m, A, ao, ai, av, A', R, ho, hi, hv, e, q⟩
  cases ho with
  | @ref n a hm =>
    cases hi with
    | int k =>
      simp only [aSet] at e
      cases q1 : A[n]? with
      | none => rw [q1] at e; cases e
      | some ob =>
        rw [q1] at e
        cases ob with
        | lst xs =>
          obtain ⟨ys, f, r⟩ := R.of hm q1
          simp only at e
          cases q2 : ixN xs.length k with
          | none => rw [q2] at e; cases e
          | some j =>
            rw [q2] at e
            cases e
            rw [r.length] at q2
            obtain ⟨t, R'⟩ := R.putL hm f (RVs.set hv j r)
            exact set_list pins s σ H _ _ _ ov iv u _ I ro ri rv ⟨a, ys, k, j, rfl, rfl, f, q2, q _ t R'⟩
        | _ => cases e
    | _ => cases e
  | _ => cases e
end
end Ev


set_option linter.all false
set_option maxRecDepth 100000
namespace Ev
open PySem PySem.Spec PyProof.Rows L2

def rCallA (K : PySem.W.Frag) (f : List AV → AH → Res AV) : List V → Hp → VK → Prop := fun vs H Q => ∃ m A axs, RelH K m A H ∧ RVs K H m axs vs ∧ Fin K m H (f axs A) Q
/-- a call whose one argument is a list that nobody else has -/
def rCallF (K : PySem.W.Frag) (f : List AV → AH → Res AV) : List V → Hp → VK → Prop := fun vs H Q => ∃ m A axs ys D, vs = [.ref D] ∧ SqL K H D ys ∧ RelH K m A H ∧ RVs K H m axs ys ∧ Fin K m H (f axs A) Q
theorem kit_tab : ∀ t ∈ ["NoneType", "bool", "int", "str", "tuple", "list", "dict"], ∀ T ∈ ["int", "bool", "str", "tuple", "list", "dict"], kitB t T = isA t T := by decide +kernel
theorem isA_names {t T : String} {b : Bool} (h : isA t T = some b) : T ∈ ["int", "bool", "str", "tuple", "list", "dict"] := by
  unfold isA at h
  split at h
  · rename_i e; subst e; simp
  · split at h
    · rename_i e; rcases e with e | e | e | e | e <;> subst e <;> simp
    · cases h
section
variable {X : Cx} {m : List Addr} {A : AH} {H : Hp}
theorem RelH.ty {K : PySem.W.Frag} (R : RelH K m A H) {x : AV} {y : V} {t : String} (r : RV K H m x y) (h : tyName A x = some t) : TyX K H y (.type t) ∧ t ∈ ["NoneType", "bool", "int", "str", "tuple", "list", "dict"] := by
  cases r with
  | non => cases h; exact ⟨.base .non, by simp⟩
  | bl b => cases h; exact ⟨.base (.bl b), by simp⟩
  | int b => cases h; exact ⟨.base (.int b), by simp⟩
  | str b => cases h; exact ⟨.base (.str b), by simp⟩
  | ty b => cases h
  | @tup xs a ys ht hs =>
    cases h
    refine ⟨?_, by simp⟩
    rcases ht with (e | ⟨o, e⟩) | ⟨o, its, n, e, hc, _⟩
    · exact .base (.tup e)
    · exact .fTuple e
    · exact .kTuple e hc
  | @fl xs a ys ht hs =>
    cases h
    refine ⟨?_, by simp⟩
    rcases ht with ⟨o, e⟩ | ⟨o, its, n, e, hc, _⟩
    · exact .base (.frz e)
    · exact .kList e hc
  | @ref n a hm =>
    simp only [tyName] at h
    cases q : A[n]? with
    | none => simp [q] at h
    | some o =>
      rw [q] at h
      have ro := R.of hm q
      cases o with
      | lst ys => simp only [Option.some.injEq] at h; subst h; obtain ⟨zs, e, r⟩ := ro; exact ⟨.base (.lst e), by simp⟩
      | dK ys => simp only [Option.some.injEq] at h; subst h; obtain ⟨zs, e, r⟩ := ro; exact ⟨.base (.dK e), by simp⟩
      | dT ys => simp only [Option.some.injEq] at h; subst h; obtain ⟨zs, e, r⟩ := ro; exact ⟨.base (.dT e), by simp⟩
theorem RVs.inv1 {K : PySem.W.Frag} {xs : List AV} {v : V} (r : RVs K H m xs [v]) : ∃ x, xs = [x] ∧ RV K H m x v := by
  cases r with
  | cons h hs => cases hs; exact ⟨_, rfl, h⟩
theorem cb_isinst : CallR X (.builtin "isinstance") (rCallA X.K (aBif .isinst)) := by
  rintro pins s σ H xs us Q I r ⟨m, A, axs, R, rs, fin⟩
  cases rs with
  | nil => exact False.elim fin
  | cons h1 hs =>
    cases hs with
    | nil => exact False.elim fin
    | cons h2 hs =>
      cases hs with
      | cons _ _ => exact False.elim (by cases h2 <;> exact fin)
      | nil =>
        cases h2 with
        | ty T =>
          simp only [aBif] at fin
          split at fin
          · rename_i t e1
            split at fin
            · rename_i b e2
              obtain ⟨ty, ht⟩ := R.ty h1 e1
              exact call_isi pins s σ H _ us Q I r ⟨_, _, _, _, b, rfl, .ty T, ty, kit_ty ((kit_tab t ht T (isA_names e2)).trans e2), fin.here R (.bl b)⟩
            · exact False.elim fin
          · exact False.elim fin
        | _ => exact False.elim fin
theorem cb_len : CallR X (.builtin "len") (rCallA X.K (aBif .len)) := by
  rintro pins s σ H xs us Q I r ⟨m, A, axs, R, rs, fin⟩
  cases rs with
  | nil => exact False.elim fin
  | @cons ax x _ _ h1 hs =>
    cases hs with
    | cons _ _ => exact False.elim fin
    | nil =>
      have sq : ∀ {ys}, seqOf A ax = some ys → Fin X.K m H (.ok (.int ys.length) A) Q → wpAny (model X.prog X.w) X.A (call (.builtin "len") us) (EP X pins σ Q) X.xe s := fun {ys} e f => by
        obtain ⟨a, zs, rfl, hq, rr⟩ := R.seq h1 e
        rw [rr.length] at f
        exact call_len_seq pins s σ H _ us Q I r ⟨a, zs, rfl, hq, f.here R (.int _)⟩
      cases h1 with
      | str z =>
        simp only [aBif] at fin
        split at fin
        · rename_i hz; exact call_len_str pins s σ H _ us Q I r ⟨z, rfl, hz, fin.here R (.int _)⟩
        · exact False.elim fin
      | tup ht hh => exact sq rfl fin
      | fl ht hh => exact sq rfl fin
      | ref hm =>
        simp only [aBif] at fin
        split at fin
        · rename_i e; exact sq e fin
        · exact False.elim fin
      | _ => exact False.elim fin
theorem cb_abs : CallR X (.builtin "abs") (rCallA X.K (aBif .abs)) := by
  rintro pins s σ H xs us Q I r ⟨m, A, axs, R, rs, fin⟩
  cases rs with
  | nil => exact False.elim fin
  | cons h1 hs =>
    cases hs with
    | cons _ _ => cases h1 <;> exact False.elim fin
    | nil =>
      cases h1 with
      | int i => exact call_abs pins s σ H _ us Q I r ⟨i, rfl, fin.here R (.int _)⟩
      | _ => exact False.elim fin
theorem cb_int : CallR X (.type "int") (rCallA X.K (aBif .int_)) := by
  rintro pins s σ H xs us Q I r ⟨m, A, axs, R, rs, fin⟩
  cases rs with
  | nil => exact False.elim fin
  | cons h1 hs =>
    cases hs with
    | cons _ _ => cases h1 <;> exact False.elim fin
    | nil =>
      cases h1 with
      | int i => exact call_int1 pins s σ H _ us Q I r (.inl ⟨i, rfl, fin.here R (.int _)⟩)
      | bl i => exact call_int1 pins s σ H _ us Q I r (.inr ⟨i, rfl, fin.here R (.int _)⟩)
      | _ => exact False.elim fin
theorem cb_min2 (hc : X.calm = true) : CallR X (.builtin "min") (rCallA X.K (aBif .min2)) := by
  rintro pins s σ H xs us Q I r ⟨m, A, axs, R, rs, fin⟩
  cases rs with
  | nil => exact False.elim fin
  | cons h1 hs =>
    cases hs with
    | nil => cases h1 <;> exact False.elim fin
    | cons h2 hs =>
      cases hs with
      | cons _ _ => cases h1 <;> cases h2 <;> exact False.elim fin
      | nil =>
        cases h1 with
        | int i =>
          cases h2 with
          | int j => exact call_min2 hc pins s σ H _ us Q I r ⟨i, j, rfl, fin.here R (.int _)⟩
          | _ => exact False.elim fin
        | _ => exact False.elim fin
theorem cb_max2 (hc : X.calm = true) : CallR X (.builtin "max") (rCallA X.K (aBif .max2)) := by
  rintro pins s σ H xs us Q I r ⟨m, A, axs, R, rs, fin⟩
  cases rs with
  | nil => exact False.elim fin
  | cons h1 hs =>
    cases hs with
    | nil => cases h1 <;> exact False.elim fin
    | cons h2 hs =>
      cases hs with
      | cons _ _ => cases h1 <;> cases h2 <;> exact False.elim fin
      | nil =>
        cases h1 with
        | int i =>
          cases h2 with
          | int j => exact call_max2 hc pins s σ H _ us Q I r ⟨i, j, rfl, fin.here R (.int _)⟩
          | _ => exact False.elim fin
        | _ => exact False.elim fin
theorem cb_gcd : CallR X (.builtin "math.gcd") (rCallA X.K (aBif .gcd)) := by
  rintro pins s σ H xs us Q I r ⟨m, A, axs, R, rs, fin⟩
  cases rs with
  | nil => exact False.elim fin
  | cons h1 hs =>
    cases hs with
    | nil => cases h1 <;> exact False.elim fin
    | cons h2 hs =>
      cases hs with
      | cons _ _ => cases h1 <;> cases h2 <;> exact False.elim fin
      | nil =>
        cases h1 with
        | int i =>
          cases h2 with
          | int j => exact cr_gcd pins s σ H _ us Q I r ⟨i, j, rfl, fin.here R (.int _)⟩
          | _ => exact False.elim fin
        | _ => exact False.elim fin
theorem cb_listof : CallR X (.type "list") (rCallA X.K (aBif .listof)) := by
  rintro pins s σ H xs us Q I r ⟨m, A, axs, R, rs, fin⟩
  cases rs with
  | nil => exact False.elim fin
  | cons h1 hs =>
    cases hs with
    | cons _ _ => exact False.elim fin
    | nil =>
      simp only [aBif] at fin
      split at fin
      · rename_i e
        obtain ⟨a, zs, rfl, hq, rr⟩ := R.seq h1 e
        exact call_list_of pins s σ H _ us Q I r ⟨a, zs, rfl, hq, fun l nl => fin.lstNew R rr nl⟩
      · exact False.elim fin
theorem cb_tupof : CallR X (.type "tuple") (rCallA X.K (aBif .tupof)) := by
  rintro pins s σ H xs us Q I r ⟨m, A, axs, R, rs, fin⟩
  cases rs with
  | nil => exact False.elim fin
  | cons h1 hs =>
    cases hs with
    | cons _ _ => exact False.elim fin
    | nil =>
      simp only [aBif] at fin
      split at fin
      · rename_i e
        obtain ⟨a, zs, rfl, hq, rr⟩ := R.seq h1 e
        rcases hq with hq | hq
        · exact call_tuple_of pins s σ H _ us Q I r ⟨a, zs, rfl, .inl ⟨hq, fun l nl => fin.tupNew R rr nl⟩⟩
        · exact call_tuple_of pins s σ H _ us Q I r ⟨a, zs, rfl, .inr ⟨hq, fin.here R (.tup hq rr)⟩⟩
      · exact False.elim fin

/-! ### functions of a new list -/
theorem lf_tup : CallR X (.type "tuple") (rCallF X.K (aLF .tup)) := by
  rintro pins s σ H xs us Q I r ⟨m, A, axs, ys, D, rfl, hD, R, rs, fin⟩
  exact call_tuple_of pins s σ H _ us Q I r ⟨D, ys, rfl, .inl ⟨hD, fun l nl => fin.tupNew R rs nl⟩⟩
theorem lf_len : CallR X (.builtin "len") (rCallF X.K (aLF .len)) := by
  rintro pins s σ H xs us Q I r ⟨m, A, axs, ys, D, rfl, hD, R, rs, fin⟩
  have fin : Fin X.K m H (.ok (.int axs.length) A) Q := fin
  rw [rs.length] at fin
  exact call_len_seq pins s σ H _ us Q I r ⟨D, ys, rfl, .inl hD, fin.here R (.int _)⟩
theorem lf_sum (hc : X.calm = true) : CallR X (.builtin "sum") (rCallF X.K (aLF .sum)) := by
  rintro pins s σ H xs us Q I r ⟨m, A, axs, ys, D, rfl, hD, R, rs, fin⟩
  simp only [aLF] at fin
  split at fin
  · rename_i ns e
    have e2 := rs.ofInts e
    subst e2
    exact cr_sum hc pins s σ H _ us Q I r ⟨D, ns, rfl, hD, fin.here R (.int _)⟩
  · exact False.elim fin
theorem lf_all (hc : X.calm = true) : CallR X (.builtin "all") (rCallF X.K (aLF .all)) := by
  rintro pins s σ H xs us Q I r ⟨m, A, axs, ys, D, rfl, hD, R, rs, fin⟩
  simp only [aLF] at fin
  split at fin
  · rename_i ns e
    have e2 := rs.ofBools e
    subst e2
    exact cr_all hc pins s σ H _ us Q I r ⟨D, ns, rfl, hD, fin.here R (.bl _)⟩
  · exact False.elim fin
theorem lf_any (hc : X.calm = true) : CallR X (.builtin "any") (rCallF X.K (aLF .any)) := by
  rintro pins s σ H xs us Q I r ⟨m, A, axs, ys, D, rfl, hD, R, rs, fin⟩
  simp only [aLF] at fin
  split at fin
  · rename_i ns e
    have e2 := rs.ofBools e
    subst e2
    exact cr_any hc pins s σ H _ us Q I r ⟨D, ns, rfl, hD, fin.here R (.bl _)⟩
  · exact False.elim fin
theorem fold_max (ns : List Int) : ∀ n m : Int, m ∈ n :: ns → (∀ y ∈ n :: ns, y ≤ m) → ns.foldl (fun a b => if b > a then b else a) n = m := by
  induction ns with
  | nil => intro n m h _; simp at h; exact h.symm
  | cons k r ih =>
    intro n m h hm
    rw [List.foldl_cons]
    have h1 : n ≤ m := hm n (by simp)
    have h2 : k ≤ m := hm k (by simp)
    by_cases hk : k > n
    · rw [if_pos hk]
      refine ih k m ?_ fun y hy => hm y (List.mem_cons_of_mem _ hy)
      rcases List.mem_cons.mp h with e | h
      · omega
      · exact h
    · rw [if_neg hk]
      refine ih n m ?_ fun y hy => hm y ?_
      · rcases List.mem_cons.mp h with e | h
        · simp [e]
        · rcases List.mem_cons.mp h with e | h
          · have : n = m := by omega
            simp [this]
          · exact List.mem_cons_of_mem _ h
      · rcases List.mem_cons.mp hy with e | h
        · simp [e]
        · exact List.mem_cons_of_mem _ (List.mem_cons_of_mem _ h)
theorem fold_min (ns : List Int) : ∀ n m : Int, m ∈ n :: ns → (∀ y ∈ n :: ns, m ≤ y) → ns.foldl (fun a b => if b < a then b else a) n = m := by
  induction ns with
  | nil => intro n m h _; simp at h; exact h.symm
  | cons k r ih =>
    intro n m h hm
    rw [List.foldl_cons]
    have h1 : m ≤ n := hm n (by simp)
    have h2 : m ≤ k := hm k (by simp)
    by_cases hk : k < n
    · rw [if_pos hk]
      refine ih k m ?_ fun y hy => hm y (List.mem_cons_of_mem _ hy)
      rcases List.mem_cons.mp h with e | h
      · omega
      · exact h
    · rw [if_neg hk]
      refine ih n m ?_ fun y hy => hm y ?_
      · rcases List.mem_cons.mp h with e | h
        · simp [e]
        · rcases List.mem_cons.mp h with e | h
          · have : n = m := by omega
            simp [this]
          · exact List.mem_cons_of_mem _ h
      · rcases List.mem_cons.mp hy with e | h
        · simp [e]
        · exact List.mem_cons_of_mem _ (List.mem_cons_of_mem _ h)
theorem lf_max (hc : X.calm = true) : CallR X (.builtin "max") (rCallF X.K (aLF .max)) := by
  rintro pins s σ H xs us Q I r ⟨m, A, axs, ys, D, rfl, hD, R, rs, fin⟩
  simp only [aLF] at fin
  split at fin
  · rename_i n ns e
    have e2 := rs.ofInts e
    subst e2
    refine cr_max hc pins s σ H _ us Q I r ⟨D, n :: ns, rfl, hD, by simp, fun k h1 h2 => ?_⟩
    rw [fold_max ns n k h1 h2] at fin
    exact fin.here R (.int _)
  · exact False.elim fin
theorem lf_min (hc : X.calm = true) : CallR X (.builtin "min") (rCallF X.K (aLF .min)) := by
  rintro pins s σ H xs us Q I r ⟨m, A, axs, ys, D, rfl, hD, R, rs, fin⟩
  simp only [aLF] at fin
  split at fin
  · rename_i n ns e
    have e2 := rs.ofInts e
    subst e2
    refine cr_min hc pins s σ H _ us Q I r ⟨D, n :: ns, rfl, hD, by simp, fun k h1 h2 => ?_⟩
    rw [fold_min ns n k h1 h2] at fin
    exact fin.here R (.int _)
  · exact False.elim fin

theorem RelH.lst {K : PySem.W.Frag} (R : RelH K m A H) {x : AV} {y : V} {xs : List AV} (r : RV K H m x y) (h : lstOf A x = some xs) : ∃ a ys, y = .ref a ∧ SqL K H a ys ∧ RVs K H m xs ys := by
  cases r with
  | @fl ys a zs ht hs => cases h; exact ⟨a, zs, rfl, ht.l, hs⟩
  | @ref n a hm =>
    simp only [lstOf] at h
    split at h
    · rename_i e
      cases h
      obtain ⟨zs, h1, h2⟩ := R.of hm e
      exact ⟨a, zs, rfl, .of h1, h2⟩
    · cases h
  | _ => cases h
theorem cb_lfof {f : LF} {v : Value} (h : CallR X v (rCallF X.K (aLF f))) : CallR X v (rCallA X.K (aBif (.lfof f))) := by
  rintro pins s σ H xs us Q I r ⟨m, A, axs, R, rs, fin⟩
  cases rs with
  | nil => exact False.elim fin
  | cons h1 hs =>
    cases hs with
    | cons _ _ => exact False.elim fin
    | nil =>
      simp only [aBif] at fin
      split at fin
      · rename_i e
        obtain ⟨a, zs, rfl, hq, rr⟩ := R.lst h1 e
        exact h pins s σ H _ us Q I r ⟨m, A, _, zs, a, rfl, hq, R, rr, fin⟩
      · exact False.elim fin

/-! ### methods -/
def rMth (K : PySem.W.Frag) (k : Mth) : V → List V → Hp → VK → Prop := fun x vs H Q => ∃ m A ax axs, RelH K m A H ∧ RV K H m ax x ∧ RVs K H m axs vs ∧ Fin K m H (aMth k ax axs A) Q
theorem mth_lst {K : PySem.W.Frag} (R : RelH K m A H) {k : Mth} {ax : AV} {axs : List AV} {x : V} {Q : VK} (hx : RV K H m ax x) (fin : Fin K m H (aMth k ax axs A) Q) :
    ∃ n a ys zs, ax = .ref n ∧ x = .ref a ∧ m[n]? = some a ∧ A[n]? = some (.lst ys) ∧ H a = some (.lst zs) ∧ RVs K H m ys zs := by
  cases hx with
  | @ref n a hm =>
    simp only [aMth] at fin
    cases q : A[n]? with
    | none => simp only [q] at fin; exact False.elim fin
    | some o =>
      cases o with
      | lst ys => obtain ⟨zs, e, r⟩ := R.of hm q; exact ⟨n, a, ys, zs, rfl, rfl, hm, q, e, r⟩
      | _ => simp only [q] at fin; exact False.elim fin
  | _ => exact False.elim fin
theorem mr_append : MtR X "list.append" (rMth X.K .append) := by
  rintro pins s σ H x xs v us Q I rx rxs ⟨m, A, ax, axs, R, hx, hxs, fin⟩
  obtain ⟨n, a, ys, zs, rfl, rfl, hm, hA, hH, r⟩ := mth_lst R hx fin
  simp only [aMth, hA] at fin
  cases hxs with
  | nil => exact False.elim fin
  | cons h1 hs =>
    cases hs with
    | cons _ _ => exact False.elim fin
    | nil =>
      simp only at fin
      split at fin
      · rename_i hz
        obtain ⟨t, R'⟩ := R.putL hm hH (r.append (.one h1))
        rw [r.length] at hz
        exact mt_append pins s σ H _ _ v us Q I rx rxs ⟨a, zs, _, rfl, rfl, hH, hz, fin m _ t R' _ .non⟩
      · exact False.elim fin
theorem mr_pop0 : MtR X "list.pop" (rMth X.K .pop0) := by
  rintro pins s σ H x xs v us Q I rx rxs ⟨m, A, ax, axs, R, hx, hxs, fin⟩
  obtain ⟨n, a, ys, zs, rfl, rfl, hm, hA, hH, r⟩ := mth_lst R hx fin
  simp only [aMth, hA] at fin
  cases hxs with
  | cons _ _ => exact False.elim fin
  | nil =>
    simp only at fin
    split at fin
    · rename_i y e
      obtain ⟨w, e2, rw'⟩ := r.get e
      rw [r.length] at e2
      obtain ⟨t, R'⟩ := R.putL hm hH r.dropLast
      exact mt_pop pins s σ H _ _ v us Q I rx rxs ⟨a, zs, w, rfl, rfl, hH, e2, fin m _ t R' _ (rw'.mono t)⟩
    · exact False.elim fin
theorem mr_pop1 : MtR X "list.pop" (rMth X.K .pop1) := by
  rintro pins s σ H x xs v us Q I rx rxs ⟨m, A, ax, axs, R, hx, hxs, fin⟩
  obtain ⟨n, a, ys, zs, rfl, rfl, hm, hA, hH, r⟩ := mth_lst R hx fin
  simp only [aMth, hA] at fin
  cases hxs with
  | nil => exact False.elim fin
  | cons h1 hs =>
    cases hs with
    | cons _ _ => cases h1 <;> exact False.elim fin
    | nil =>
      cases h1 with
      | int i =>
        simp only at fin
        split at fin
        · rename_i hz
          split at fin
          · rename_i k e1
            split at fin
            · rename_i y e
              obtain ⟨w, e2, rw'⟩ := r.get e
              rw [r.length] at e1
              obtain ⟨t, R'⟩ := R.putL hm hH (r.eraseIdx k)
              exact mt_popAt pins s σ H _ _ v us Q I rx rxs ⟨a, zs, i, k, w, rfl, rfl, hH, hz.1, hz.2, e1, e2, fin m _ t R' _ (rw'.mono t)⟩
            · exact False.elim fin
          · exact False.elim fin
        · exact False.elim fin
      | _ => exact False.elim fin
theorem mr_reverse : MtR X "list.reverse" (rMth X.K .reverse) := by
  rintro pins s σ H x xs v us Q I rx rxs ⟨m, A, ax, axs, R, hx, hxs, fin⟩
  obtain ⟨n, a, ys, zs, rfl, rfl, hm, hA, hH, r⟩ := mth_lst R hx fin
  simp only [aMth, hA] at fin
  cases hxs with
  | cons _ _ => exact False.elim fin
  | nil =>
    obtain ⟨t, R'⟩ := R.putL hm hH r.reverse
    exact mt_reverse pins s σ H _ _ v us Q I rx rxs ⟨a, zs, rfl, rfl, hH, fin m _ t R' _ .non⟩
theorem mr_extend : MtR X "list.extend" (rMth X.K .extend) := by
  rintro pins s σ H x xs v us Q I rx rxs ⟨m, A, ax, axs, R, hx, hxs, fin⟩
  obtain ⟨n, a, ys, zs, rfl, rfl, hm, hA, hH, r⟩ := mth_lst R hx fin
  simp only [aMth, hA] at fin
  cases hxs with
  | nil => exact False.elim fin
  | cons h1 hs =>
    cases hs with
    | cons _ _ => cases h1 <;> exact False.elim fin
    | nil =>
      cases h1 with
      | @ref k b hk =>
        simp only at fin
        split at fin
        · rename_i zs' e
          split at fin
          · rename_i hz
            obtain ⟨ws, e2, r2⟩ := R.of hk e
            obtain ⟨t, R'⟩ := R.putL hm hH (r.append r2)
            rw [r.length, r2.length] at hz
            exact mt_extend pins s σ H _ _ v us Q I rx rxs ⟨a, b, zs, ws, rfl, rfl, hH, e2, hz, fin m _ t R' _ .non⟩
          · exact False.elim fin
        · exact False.elim fin
      | _ => exact False.elim fin
end
end Ev


set_option linter.all false
set_option maxRecDepth 100000
namespace Ev
open PySem PySem.Spec PyProof.Rows L2

/-! ### from the text to the evaluator's trees -/
structure FI where
  arity : Nat
  dflt : List AV
structure GI where
  fn : Str → Option FI
  con : Str → Option AV
  gcd : Bool
def isBlt (x : Str) : Bool := [("isinstance" : Str), "len", "abs", "int", "bool", "str", "tuple", "list", "dict", "sum", "all", "any", "max", "min", "range", "zip", "sorted", "reversed", "enumerate"].contains x
def tyOf (x : Str) : Option String :=
  if x = "int" then some "int" else if x = "bool" then some "bool" else if x = "str" then some "str" else if x = "tuple" then some "tuple" else if x = "list" then some "list" else if x = "dict" then some "dict" else none
def visB (sc : Scope) (x : Str) : Bool := match sc.names.lookup x with | some .local => true | some .cell => true | some .free => true | _ => false
def locB (sc : Scope) (x : Str) : Bool := match sc.names.lookup x with | some .local => true | some .cell => true | _ => false
def glB (sc : Scope) (x : Str) : Bool := match sc.names.lookup x with | some .globalImplicit => true | _ => false
def okName (x : Str) : Bool := x != ("__debug__" : Str) && x != ("__classdict__" : Str) && x != ("__name__" : Str)
def slotOf (N : List Str) (x : Str) : Option Nat := match N.idxOf? x with | some i => if N[i]? = some x then some i else none | none => none
def bopOf : Operator → Option BOp
  | .Add => some .add | .Sub => some .sub | .Mult => some .mul | .FloorDiv => some .fdiv | .Mod => some .mod | .Pow => some .pow | .LShift => some .shl | .RShift => some .shr | .BitAnd => some .band | _ => none
def copOf : CmpOp → COp
  | .Eq => .eq | .NotEq => .ne | .Lt => .lt | .LtE => .le | .Gt => .gt | .GtE => .ge | .Is => .is_ | .IsNot => .isnot | .In => .in_ | .NotIn => .notin
theorem opOf_bop {o : Operator} {b : BOp} (h : bopOf o = some b) : opOf b = o := by cases o <;> simp [bopOf] at h <;> subst h <;> rfl
theorem cmOf_cop (o : CmpOp) : cmOf (copOf o) = o := by cases o <;> rfl
def bifA (x : Str) (n : Nat) : Option Bif :=
  if x = "isinstance" ∧ n = 2 then some .isinst else if x = "len" ∧ n = 1 then some .len else if x = "abs" ∧ n = 1 then some .abs else if x = "int" ∧ n = 1 then some .int_
  else if x = "min" ∧ n = 2 then some .min2 else if x = "max" ∧ n = 2 then some .max2 else if x = "list" ∧ n = 1 then some .listof else if x = "tuple" ∧ n = 1 then some .tupof else none
def bifB (x : Str) (n : Nat) : Option Bif :=
  if x = "sum" ∧ n = 1 then some (.lfof .sum) else if x = "all" ∧ n = 1 then some (.lfof .all) else if x = "any" ∧ n = 1 then some (.lfof .any) else if x = "max" ∧ n = 1 then some (.lfof .max) else if x = "min" ∧ n = 1 then some (.lfof .min) else none
def bifOf (x : Str) (n : Nat) : Option Bif := match bifA x n with | some k => some k | none => bifB x n
def lfOf (x : Str) : Option LF :=
  if x = "tuple" then some .tup else if x = "sum" then some .sum else if x = "all" then some .all else if x = "any" then some .any else if x = "len" then some .len else if x = "max" then some .max else if x = "min" then some .min else none
def mthOf (x : Str) (n : Nat) : Option Mth :=
  if x = "append" ∧ n = 1 then some .append else if x = "pop" ∧ n = 0 then some .pop0 else if x = "pop" ∧ n = 1 then some .pop1 else if x = "reverse" ∧ n = 0 then some .reverse else if x = "extend" ∧ n = 1 then some .extend else none
mutual
/-- the slots that a target stores -/
def tslots : T → List Nat
  | .name i => [i]
  | .tup ts => tslotss ts
  | .sub _ _ => []
def tslotss : List T → List Nat
  | [] => []
  | t :: ts => tslots t ++ tslotss ts
end
def ownOf (N : List Str) (sc : Scope) : Scope → Option (List (Str × Nat)) := fun scope =>
  let own := (scope.names.filter fun y => y.2 == .local || y.2 == .cell).filterMap fun y => (slotOf N y.1).map fun i => (y.1, i)
  if blkC N sc scope own then some own else none
/-- a list that is written or comprehended -/
def isL : Expr → Bool | .List .. => true | .ListComp .. => true | _ => false
def noCall0 : Expr → Bool | .Call (.Name _ _) [] [] _ => false | _ => true
def mapO {α β : Type} (f : α → Option β) : List α → Option (List β)
  | [] => some [] | x :: xs => match f x, mapO f xs with | some y, some ys => some (y :: ys) | _, _ => none

def mkComp (own : List Nat) (it : I) (t : T) (a : E) : List E → Option L
  | [] => some (.comp own it t (.lit (.bl true)) a)
  | [q] => some (.comp own it t q a)
  | _ => none
section
variable (G : GI) (N : List Str)
mutual
def trE : Nat → Scope → Expr → Option E
  | 0, _, _ => none
  | n + 1, sc, e => match e with
    | .Constant q _ _ => match q with
      | .none => some (.lit .non) | .bool b => some (.lit (.bl b)) | .int i => some (.lit (.int i)) | .str s => some (.lit (.str s)) | _ => none
    | .Name x _ => if okName x then (if visB sc x then (slotOf N x).map .var else if glB sc x then
        (if isBlt x then (tyOf x).map fun T => .lit (.ty T) else if (G.con x).isSome then some (.glob x) else none) else none) else none
    | .BinOp a o b _ => match bopOf o, trE n sc a, trE n sc b with | some o, some a, some b => some (.bin o a b) | _, _, _ => none
    | .UnaryOp .USub a _ => (trE n sc a).map .neg
    | .UnaryOp .Not a _ => (trE n sc a).map .not
    | .BoolOp .And es _ => trAnd n sc es
    | .BoolOp .Or es _ => trOr n sc es
    | .Compare a [o] [b] _ => match trE n sc a, trE n sc b with | some a, some b => some (.cmp (copOf o) a b) | _, _ => none
    | .Compare a [o, p] [b, d] _ => match trE n sc a, trE n sc b, trE n sc d with | some a, some b, some d => some (.chain (copOf o) (copOf p) a b d) | _, _, _ => none
    | .IfExp q a b _ => match trE n sc q, trE n sc a, trE n sc b with | some q, some a, some b => some (.ite q a b) | _, _, _ => none
    | .Tuple es _ _ => (trEs n sc es).map .tup
    | .List _ _ => (trL n sc e).map .new
    | .ListComp _ _ _ _ => (trL n sc e).map .new
    | .Subscript a (.Slice lo hi none _) _ => match trE n sc a, trO n sc lo, trO n sc hi with | some a, some lo, some hi => some (.sl a lo hi) | _, _, _ => none
    | .Subscript a b _ => match trE n sc a, trE n sc b with | some a, some b => some (.ix a b) | _, _ => none
    | .Call (.Name f _) es [] _ => if okName f && glB sc f then
        (match G.fn f with
        | some fi => if isBlt f then none else if es.length + fi.dflt.length = fi.arity then (trEs n sc es).map fun es => .call f es fi.dflt else none
        | none => if isBlt f then
            (match es with
            | [a] => if isL a then (match lfOf f, trL n sc a with | some k, some l => some (.lf k l) | _, _ => none)
              else (match bifOf f 1, trE n sc a with | some k, some a => some (.bif k [a]) | _, _ => none)
            | _ => match bifOf f es.length, trEs n sc es with | some k, some es => some (.bif k es) | _, _ => none)
          else if G.gcd && f == ("gcd" : Str) && es.length == 2 then (trEs n sc es).map (.bif .gcd) else none) else none
    | .Call (.Attribute o m apos) es [] cpos => if apos.endLine == cpos.line && decide (es.length < 29) && noCall0 o then
        (match mthOf m es.length, trE n sc o, trEs n sc es with | some k, some o, some es => some (.mth k o es) | _, _, _ => none) else none
    | _ => none
def trAnd : Nat → Scope → List Expr → Option E
  | 0, _, _ => none
  | _ + 1, _, [] => none
  | n + 1, sc, [e] => trE n sc e
  | n + 1, sc, e :: e' :: es => match trE n sc e, trAnd n sc (e' :: es) with | some a, some b => some (.and a b) | _, _ => none
def trOr : Nat → Scope → List Expr → Option E
  | 0, _, _ => none
  | _ + 1, _, [] => none
  | n + 1, sc, [e] => trE n sc e
  | n + 1, sc, e :: e' :: es => match trE n sc e, trOr n sc (e' :: es) with | some a, some b => some (.or a b) | _, _ => none
def trEs : Nat → Scope → List Expr → Option (List E)
  | 0, _, _ => none
  | _ + 1, _, [] => some []
  | n + 1, sc, e :: es => match trE n sc e, trEs n sc es with | some a, some b => some (a :: b) | _, _ => none
def trO : Nat → Scope → Option Expr → Option (Option E)
  | 0, _, _ => none
  | _ + 1, _, none => some none
  | n + 1, sc, some e => (trE n sc e).map some
def trL : Nat → Scope → Expr → Option L
  | 0, _, _ => none
  | n + 1, sc, e => match e with
    | .List es _ => (trEs n sc es).map .disp
    | .ListComp elt [⟨tg, iter, ifs, asy⟩] scope _ => if asy = 0 then (match ownOf N sc scope, trI n sc iter tg, trT n (fun x => scope.names.lookup x == some .cell) (relS scope sc) tg, trE n (relS scope sc) elt, trEs n (relS scope sc) ifs with
      | some own, some it, some t, some a, some qs => if (tslots t).all (fun i => (own.map (·.2)).contains i) then mkComp (own.map (·.2)) it t a qs else none
      | _, _, _, _, _ => none) else none
    | _ => none
def trI : Nat → Scope → Expr → Expr → Option I
  | 0, _, _, _ => none
  | n + 1, sc, e, _ => match e with
    | .Call (.Name f _) es [] _ => if f = "range" then (if glB sc f then (match es with
        | [a] => (trE n sc a).map .range1
        | [a, b] => (match trE n sc a, trE n sc b with | some a, some b => some (.range2 a b) | _, _ => none)
        | _ => none) else none) else (trE n sc e).map .v
    | .Set .. => none
    | _ => if isL e then (trL n sc e).map .l else (trE n sc e).map .v
def trT : Nat → (Str → Bool) → Scope → Expr → Option T
  | 0, _, _, _ => none
  | n + 1, fc, sc, e => match e with
    | .Name x _ => if locB sc x && (sc.names.lookup x == some .local || fc x) then (slotOf N x).map .name else none
    | .Tuple es _ _ => (trTs n fc sc es).map .tup
    | .Subscript o i _ => match i with
      | .Slice .. => none
      | _ => match trE n sc o, trE n sc i with | some o, some i => some (.sub o i) | _, _ => none
    | _ => none
def trTs : Nat → (Str → Bool) → Scope → List Expr → Option (List T)
  | 0, _, _, _ => none
  | _ + 1, _, _, [] => some []
  | n + 1, fc, sc, e :: es => match trT n fc sc e, trTs n fc sc es with | some a, some b => some (a :: b) | _, _ => none
end
end
end Ev


set_option linter.all false
set_option maxRecDepth 100000
set_option maxHeartbeats 1000000
namespace Ev
open PySem PySem.Spec PyProof.Rows L2

/-! ### readings -/
theorem RSl.mono {K : PySem.W.Frag} {m m' : List Addr} {H H' : Hp} {aσ : Sl} {σ : L2.St} (S : RSl K H m aσ σ) (t : Tr m H m' H') : RSl K H' m' aσ σ :=
  ⟨S.1, fun i v e => let ⟨x, h, r⟩ := S.2 i v e; ⟨x, h, r.mono t⟩⟩
theorem RSl.set {K : PySem.W.Frag} {m : List Addr} {H : Hp} {aσ : Sl} {σ : L2.St} (S : RSl K H m aσ σ) {v : AV} {x : V} (i : Nat) (r : RV K H m v x) : RSl K H m (aσ.set i (some v)) (σ.set i (some x)) := by
  refine ⟨by simp [S.1], fun j w e => ?_⟩
  by_cases h : j = i
  · subst h
    by_cases hl : j < aσ.length
    · rw [List.getElem?_set_self hl] at e
      cases e
      exact ⟨x, by rw [List.getElem?_set_self (by rw [← S.1]; exact hl)], r⟩
    · rw [List.getElem?_eq_none (by simp; omega)] at e
      cases e
  · rw [List.getElem?_set_ne (Ne.symm h)] at e
    obtain ⟨y, e2, r2⟩ := S.2 j w e
    exact ⟨y, by rw [List.getElem?_set_ne (Ne.symm h)]; exact e2, r2⟩
theorem RSl.unset {K : PySem.W.Frag} {m : List Addr} {H : Hp} {aσ : Sl} {σ : L2.St} (S : RSl K H m aσ σ) (i : Nat) : RSl K H m (aσ.set i none) (σ.set i none) := by
  refine ⟨by simp [S.1], fun j w e => ?_⟩
  by_cases h : j = i
  · subst h
    by_cases hl : j < aσ.length
    · rw [List.getElem?_set_self hl] at e; cases e
    · rw [List.getElem?_eq_none (by simp; omega)] at e; cases e
  · rw [List.getElem?_set_ne (Ne.symm h)] at e
    obtain ⟨y, e2, r2⟩ := S.2 j w e
    exact ⟨y, by rw [List.getElem?_set_ne (Ne.symm h)]; exact e2, r2⟩
theorem RSl.wipe {K : PySem.W.Frag} {m : List Addr} {H : Hp} : ∀ (l : List Nat) {aσ : Sl} {σ : L2.St}, RSl K H m aσ σ → RSl K H m (wipeS aσ l) (L2.wipe σ l)
  | [], _, _, S => S
  | i :: r, _, _, S => (RSl.wipe r S).unset i
section
variable (K : PySem.W.Frag) (c : Cfg)
def rdE (e : E) : TE := fun σ H Q => ∃ m A aσ, RelH K m A H ∧ RSl K H m aσ σ ∧ Fin K m H (evE c e aσ A) Q
def rdT (e : E) : TT := fun σ H Q => ∃ m A aσ, RelH K m A H ∧ RSl K H m aσ σ ∧ FinT K m H (evT c e aσ A) Q
def rdEs (es : List E) : TA := fun σ H Q => ∃ m A aσ, RelH K m A H ∧ RSl K H m aσ σ ∧ FG K m H (evEs c es aσ A) fun xs _ m' H' => ∀ ys, RVs K H' m' xs ys → Q ys H'
def rdO (e : Option E) : TO := fun σ H Q => ∃ m A aσ, RelH K m A H ∧ RSl K H m aσ σ ∧ FG K m H (evO c e aσ A) fun o _ _ H' => Q o H'
def rdL (l : L) : TE := fun σ H Q => ∃ m A aσ, RelH K m A H ∧ RSl K H m aσ σ ∧ FG K m H (evL c l aσ A) fun xs _ m' H' => ∀ D ys, H' D = some (.lst ys) → D ∉ m' → H D = none → RVs K H' m' xs ys → Q (.ref D) H'
/-- what is walked -/
def JOk (t : Itm) (m0 : List Addr) (H0 : Hp) (J : It) : Prop := ∀ i m A H, Tr m0 H0 m H → RelH K m A H → t.chk A = true →
  (∀ av, t.items[i]? = some av → J.go i H ∧ ∀ x H', J.yld i H x H' → Tr m H m H' ∧ RelH K m A H' ∧ RV K H' m av x) ∧ (t.items.length ≤ i → J.stop i H)
def rdI (it : I) : TI := fun σ H R => ∃ m A aσ, RelH K m A H ∧ RSl K H m aσ σ ∧ FG K m H (evI c it aσ A) fun t _ m' H' => ∀ J, JOk K t m' H' J → R J H'
/-- but for some slots the same -/
def SameOut (l : List Nat) (σ σ' : L2.St) : Prop := σ'.length = σ.length ∧ ∀ i, i ∉ l → σ'[i]? = σ[i]?
def rdTg (t : T) : TG := fun v σ H Q => ∃ m A aσ av, RelH K m A H ∧ RSl K H m aσ σ ∧ RV K H m av v ∧ FG K m H (evTg c t av aσ A) fun aσ' _ m' H' => ∀ σ', RSl K H' m' aσ' σ' → SameOut (tslots t) σ σ' → Q σ' H'
def rdTs (ts : List T) : TGs := fun vs σ H Q => ∃ m A aσ avs, RelH K m A H ∧ RSl K H m aσ σ ∧ RVs K H m avs vs ∧ FG K m H (evTs c ts avs aσ A) fun aσ' _ m' H' => ∀ σ', RSl K H' m' aσ' σ' → SameOut (tslotss ts) σ σ' → Q σ' H'
/-- a def of the text, by the evaluator -/
def spEv (f : Str) : Sp := fun vs H Q _ => ∃ m A axs, RelH K m A H ∧ RVs K H m axs vs ∧ Fin K m H (c.fn f axs A) Q
end
structure CxOk (c : Cfg) (G : GI) (N : List Str) (k : Nat) (X : Cx) (sc : Scope) : Prop where
  sc : X.env.scope = sc
  N : X.N = N
  nd : X.N.Nodup
  calm : X.calm = true
  room : Room k X.A
  blt : ∀ x, isBlt x = true → X.mg x = none
  gcd : G.gcd = true → X.mg "gcd" = some (.builtin "math.gcd")
  con : ∀ x, (G.con x).isSome = true → ∃ v u w, c.gl x = some v ∧ X.mg x = some u ∧ RelV w u ∧ ∀ H m, RV X.K H m v w
  fn : ∀ x fi, G.fn x = some fi → ∃ f fd ps dvs ds, X.mg x = some (.ref f) ∧ PySem.W.keepIn X.K (.ref f) = true ∧ Binds X.K fd ps ds ∧ Vals dvs ds ∧ (∀ H m, RVs X.K H m fi.dflt dvs) ∧
    FnOk X.prog X.w X.K X.mg X.base CX0 k f fd ps (spEv X.K c x)

theorem PE.mono {X : Cx} {e : Expr} {t t' : TE} (h : PE X e t) (f : ∀ σ H Q, t' σ H Q → t σ H Q) : PE X e t' := ⟨fun pins s σ H Q I q => h.run pins s σ H Q I (f σ H Q q)⟩
theorem PT.mono {X : Cx} {e : Expr} {t t' : TT} (h : PT X e t) (f : ∀ σ H Q, t' σ H Q → t σ H Q) : PT X e t' := ⟨fun pins s σ H Q I q => h.run pins s σ H Q I (f σ H Q q)⟩
theorem PW.mono {X : Cx} {e : Expr} {t t' : TT} (h : PW X e t) (f : ∀ σ H Q, t' σ H Q → t σ H Q) : PW X e t' := ⟨fun wh pins s σ H Q I q => h.run wh pins s σ H Q I (f σ H Q q)⟩
theorem PA.mono {X : Cx} {e : List Expr} {t t' : TA} (h : PA X e t) (f : ∀ σ H Q, t' σ H Q → t σ H Q) : PA X e t' := ⟨fun p pins s σ H Q I q => h.run p pins s σ H Q I (f σ H Q q)⟩
theorem PO.mono {X : Cx} {e : Option Expr} {t t' : TO} (h : PO X e t) (f : ∀ σ H Q, t' σ H Q → t σ H Q) : PO X e t' := ⟨fun pins s σ H Q I q => h.run pins s σ H Q I (f σ H Q q)⟩
theorem PI.mono {X : Cx} {tg e : Expr} {t t' : TI} (h : PI X tg e t) (f : ∀ σ H Q, t' σ H Q → t σ H Q) : PI X tg e t' := ⟨fun pins s σ H Q I q => h.run pins s σ H Q I (f σ H Q q)⟩
theorem PG.mono {X : Cx} {e : Expr} {t t' : TG} (h : PG X e t) (f : ∀ v σ H Q, t' v σ H Q → t v σ H Q) : PG X e t' := ⟨fun pins s σ H v u Q I r q => h.run pins s σ H v u Q I r (f v σ H Q q)⟩
theorem PGs.mono {X : Cx} {e : List Expr} {t t' : TGs} (h : PGs X e t) (f : ∀ v σ H Q, t' v σ H Q → t v σ H Q) : PGs X e t' := ⟨fun pins s σ H v u Q I r q => h.run pins s σ H v u Q I r (f v σ H Q q)⟩

/-! ### names, heads -/
theorem slotOf_get {N : List Str} {x : Str} {i : Nat} (h : slotOf N x = some i) : N[i]? = some x := by
  unfold slotOf at h
  split at h
  · split at h
    · rename_i e; cases h; exact e
    · cases h
  · cases h
theorem vis_of {sc : Scope} {x : Str} (h : visB sc x = true) : Vis sc x := by
  unfold visB at h; unfold Vis
  split at h <;> first | (rename_i e; rw [e]; simp) | cases h
theorem loc_of {sc : Scope} {x : Str} (h : locB sc x = true) : L2.Loc sc x := by
  unfold locB at h; unfold L2.Loc
  split at h <;> first | (rename_i e; rw [e]; simp) | cases h
theorem gl_of {X : Cx} {sc : Scope} {x : Str} (e : X.env.scope = sc) (h : glB sc x = true) : Gl X x := by
  unfold glB at h
  split at h
  · rename_i q; show X.env.scope.names.lookup x = _; rw [e]; exact q
  · cases h
theorem okName_of {x : Str} (h : okName x = true) : (x == ("__debug__" : Str)) = false ∧ (x == ("__classdict__" : Str)) = false ∧ x ≠ "__name__" := by
  unfold okName at h
  simp only [Bool.and_eq_true, bne_iff_ne, ne_eq] at h
  exact ⟨beq_eq_false_iff_ne.mpr h.1.1, beq_eq_false_iff_ne.mpr h.1.2, h.2⟩
theorem tyOf_boot {x : Str} {T : String} (h : tyOf x = some T) : bootBuiltins x = some (.type T) := by
  unfold tyOf at h
  repeat' split at h
  all_goals first | (rename_i e; subst e; cases h; decide +kernel) | (rename_i e _; subst e; cases h; decide +kernel) | (rename_i e _ _; subst e; cases h; decide +kernel) | (rename_i e _ _ _; subst e; cases h; decide +kernel) | (rename_i e _ _ _ _; subst e; cases h; decide +kernel) | (rename_i e _ _ _ _ _; subst e; cases h; decide +kernel) | cases h
/-- the head of a tree that is served -/
def NoStar (e : Expr) : Prop := (∀ v p, e ≠ .Starred v p) ∧ (∀ a b p, e ≠ .Set a b p)
theorem starEach_cons {e : Expr} {es : List Expr} {env : Env} (h : NoStar e) : starEach (e :: es) env = (false, eval e env) :: starEach es env := by
  cases e <;> first | rfl | exact absurd rfl (h.1 _ _)
theorem assignEach_cons {e : Expr} {es : List Expr} {env : Env} (h : NoStar e) : assignEach (e :: es) env = (false, assign e env) :: assignEach es env := by
  cases e <;> first | rfl | exact absurd rfl (h.1 _ _)
theorem starPlain {pos : Pos} {env : Env} : ∀ {es : List Expr}, (∀ e ∈ es, NoStar e) → (backTo pos (starEach es env)).any (·.1) = false
  | [], _ => rfl
  | e :: es, h => by
    rw [starEach_cons (h e (by simp))]
    have ih := starPlain (pos := pos) (env := env) (es := es) fun x hx => h x (List.mem_cons_of_mem _ hx)
    unfold backTo at ih ⊢
    rw [List.map_cons, List.any_cons, ih]
    rfl
theorem starAll {pos : Pos} {env : Env} : ∀ {es : List Expr}, (∀ e ∈ es, NoStar e) → (backTo pos (starEach es env)).all (fun x => !x.1) = true
  | [], _ => rfl
  | e :: es, h => by
    rw [starEach_cons (h e (by simp))]
    have ih := starAll (pos := pos) (env := env) (es := es) fun x hx => h x (List.mem_cons_of_mem _ hx)
    unfold backTo at ih ⊢
    rw [List.map_cons, List.all_cons, ih]
    rfl
theorem behind_of {op : CmpOp} {e : Expr} (h : NoStar e) : behindInMarks op e = false := by
  cases e <;> first | rfl | exact absurd rfl (h.2 _ _ _)
theorem lastMarks_of {op op' : CmpOp} {b e : Expr} (h : NoStar e) : lastMarks [op, op'] [b, e] = false := by
  show lastMarks [op'] [e] = false
  show behindInMarks op' e = false
  exact behind_of h
theorem folded_of {e : Expr} {env : Env} (h : NoStar e) : ∀ x, foldedSetIterable e env x = pure x := by
  intro x
  cases e <;> first | rfl | exact absurd rfl (h.2 _ _ _)
theorem attrBase_of {o : Expr} {f : Str} {env : Env} {w : Sem Value} (h : ∀ id p pos, o ≠ .Call (.Name id p) [] [] pos) : attributeBase o f env w = w := by
  unfold attributeBase
  split
  · rename_i id p pos; exact absurd rfl (h id p pos)
  · rfl
end Ev


set_option linter.all false
set_option maxRecDepth 100000
set_option maxHeartbeats 4000000
namespace Ev
open PySem PySem.Spec PyProof.Rows L2

section
variable {c : Cfg} {G : GI} {N : List Str} {k : Nat} {X : Cx} {sc : Scope}

theorem trE_noStar {n : Nat} {e : Expr} {e' : E} (h : trE G N n sc e = some e') : NoStar e := by
  cases n with
  | zero => simp [trE] at h
  | succ n => exact ⟨fun v p z => by subst z; simp [trE] at h, fun a b p z => by subst z; simp [trE] at h⟩
theorem trE_noSlice {n : Nat} {e : Expr} {e' : E} (h : trE G N n sc e = some e') : PlainIx e := by
  cases n with
  | zero => simp [trE] at h
  | succ n =>
    intro o i
    cases e <;> first | rfl | (exfalso; simp [trE] at h)
theorem noCall0_of {e : Expr} (h : noCall0 e = true) : ∀ id p pos, e ≠ .Call (.Name id p) [] [] pos := fun id p pos z => by subst z; simp [noCall0] at h
theorem trT_noStar {n : Nat} {fc : Str → Bool} {e : Expr} {t : T} (h : trT G N n fc sc e = some t) : NoStar e := by
  cases n with
  | zero => simp [trT] at h
  | succ n => exact ⟨fun v p z => by subst z; simp [trT] at h, fun a b p z => by subst z; simp [trT] at h⟩
theorem trEs_noStar : ∀ {n : Nat} {es : List Expr} {es' : List E}, trEs G N n sc es = some es' → ∀ e ∈ es, NoStar e
  | 0, _, _, h => by simp [trEs] at h
  | n + 1, [], _, _ => fun e he => by cases he
  | n + 1, e :: es, _, h => by
    simp only [trEs] at h
    split at h
    · rename_i a b h1 h2
      intro x hx
      rcases List.mem_cons.mp hx with e | hx
      · subst e; exact trE_noStar h1
      · exact trEs_noStar h2 x hx
    · cases h
theorem trEs_len : ∀ {n : Nat} {es : List Expr} {es' : List E}, trEs G N n sc es = some es' → es'.length = es.length
  | 0, _, _, h => by simp [trEs] at h
  | n + 1, [], _, h => by simp [trEs] at h; subst h; rfl
  | n + 1, e :: es, _, h => by
    simp only [trEs] at h
    split at h
    · rename_i a b h1 h2
      cases h
      rw [List.length_cons, List.length_cons, trEs_len h2]
    · cases h

theorem trE_notSlice {n : Nat} {e : Expr} {e' : E} (h : trE G N n sc e = some e') : ∀ l u s p, e ≠ .Slice l u s p := fun l u s p z => by
  subst z
  cases n with
  | zero => simp [trE] at h
  | succ n => simp [trE] at h

/-! ### one construct each -/
variable {a b d : Expr} {a' b' d' : E} {pos : Pos} {K : PySem.W.Frag} {σ : L2.St} {H : Hp} {Q : VK}
theorem FG.two {m : List Addr} {A : AH} {aσ : Sl} {P : AV → AV → AH → Res AV} {R' : AV → AV → AH → List Addr → Hp → V → V → Prop} (R : RelH K m A H) (S : RSl K H m aσ σ)
    (h : Fin K m H ((evE c a' aσ A).bind fun x A => (evE c b' aσ A).bind fun y A => P x y A) Q) {r : V → V → Hp → Prop}
    (f : ∀ v w A2 m2 H2 x y, RelH K m2 A2 H2 → RSl K H2 m2 aσ σ → RV K H2 m2 v x → RV K H2 m2 w y → Fin K m2 H2 (P v w A2) Q → r x y H2) :
    rdE K c a' σ H fun x H1 => rdE K c b' σ H1 fun y H2 => r x y H2 :=
  ⟨m, A, aσ, R, S, FG.imp (FG.bind h) fun v A1 m1 H1 t1 R1 h1 x rx => ⟨m1, A1, aσ, R1, S.mono t1, FG.imp (FG.bind h1) fun w A2 m2 H2 t2 R2 h2 y ry =>
    f v w A2 m2 H2 x y R2 ((S.mono t1).mono t2) (rx.mono t2) ry h2⟩⟩
theorem s_bin {o : BOp} (ha : PE X a (rdE X.K c a')) (hb : PE X b (rdE X.K c b')) : PE X (.BinOp a (opOf o) b pos) (rdE X.K c (.bin o a' b')) :=
  PE.mono (pe_op op_bin ha hb) fun σ H Q ⟨m, A, aσ, R, S, h⟩ => FG.two (R' := fun _ _ _ _ _ _ _ => True) R S h fun v w A2 m2 H2 x y R2 S2 rx ry h2 => ⟨m2, A2, v, w, R2, rx, ry, h2⟩
theorem s_neg (ha : PE X a (rdE X.K c a')) : PE X (.UnaryOp .USub a pos) (rdE X.K c (.neg a')) :=
  PE.mono (pe_un un_neg ha) fun σ H Q ⟨m, A, aσ, R, S, h⟩ => ⟨m, A, aσ, R, S, FG.imp (FG.bind h) fun v A1 m1 H1 t1 R1 h1 x rx => by
    cases rx with
    | int i => exact ⟨i, rfl, Fin.here R1 h1 (.int _)⟩
    | _ => exact False.elim h1⟩
theorem FG.cmp {m : List Addr} {A : AH} {o : Option Bool} (R : RelH K m A H) (h : Fin K m H (match o with | some k => .ok (.bl k) A | none => .bad) Q) : ∃ k, o = some k ∧ Q (.bl k) H := by
  cases o with
  | none => exact False.elim h
  | some k => exact ⟨k, rfl, Fin.here R h (.bl k)⟩
theorem rd_cmp {o : COp} (h : rdE K c (.cmp o a' b') σ H Q) : tOp (rCmp K (aCmp o)) (rdE K c a') (rdE K c b') σ H Q := by
  obtain ⟨m, A, aσ, R, S, h⟩ := h
  refine FG.two (R' := fun _ _ _ _ _ _ _ => True) R S h fun v w A2 m2 H2 x y R2 S2 rx ry h2 => ?_
  obtain ⟨k, e, q⟩ := FG.cmp R2 h2
  exact ⟨m2, A2, v, w, k, R2, rx, ry, e, q⟩
theorem tru_ok' {m : List Addr} {A : AH} {x : AV} {P : Bool → AH → List Addr → Hp → Prop} (R : RelH K m A H) (h : FG K m H (tru x A) P) : ∃ k, truth A x = some k ∧ P k A m H := by
  unfold tru at h
  cases q : truth A x with
  | none => rw [q] at h; exact False.elim h
  | some k => rw [q] at h; exact ⟨k, rfl, h m H Tr.refl R⟩
/-- a test by the value's truth -/
theorem rd_truth {Q : Bool → Hp → Prop} (h : rdT K c a' σ H Q) : rdE K c a' σ H fun x H1 => ∃ k, TruV K x H1 k ∧ Q k H1 := by
  obtain ⟨m, A, aσ, R, S, h⟩ := h
  refine ⟨m, A, aσ, R, S, FG.imp (FG.bind h) fun v A1 m1 H1 t1 R1 h1 x rx => ?_⟩
  obtain ⟨k, e, q⟩ := tru_ok' R1 h1
  exact ⟨k, R1.truth rx e, q⟩
/-- .. of a value that is a bool -/
theorem rd_test {Q : Bool → Hp → Prop} (hb : ∀ aσ A v A', evE c a' aσ A = .ok v A' → ∃ b, v = .bl b) (h : rdT K c a' σ H Q) : rdE K c a' σ H fun x H1 => ∃ k, x = .bl k ∧ Q k H1 := by
  obtain ⟨m, A, aσ, R, S, h⟩ := h
  refine ⟨m, A, aσ, R, S, ?_⟩
  have h := FG.bind h
  cases e : evE c a' aσ A with
  | bad => rw [e] at h; exact False.elim h
  | ok v A1 =>
    rw [e] at h
    obtain ⟨b, rfl⟩ := hb _ _ _ _ e
    intro m1 H1 t1 R1 x rx
    obtain ⟨k, e2, q⟩ := tru_ok' R1 (h m1 H1 t1 R1)
    cases e2
    cases rx
    exact ⟨_, rfl, q⟩
theorem bl_of_cmp {o : COp} {aσ : Sl} {A : AH} {v : AV} {A' : AH} (h : evE c (.cmp o a' b') aσ A = .ok v A') : ∃ b, v = .bl b := by
  simp only [evE] at h
  cases e1 : evE c a' aσ A with
  | bad => simp [e1, Res.bind] at h
  | ok x A1 =>
    simp only [e1, Res.bind] at h
    cases e2 : evE c b' aσ A1 with
    | bad => simp [e2, Res.bind] at h
    | ok y A2 =>
      simp only [e2] at h
      split at h
      · cases h; exact ⟨_, rfl⟩
      · cases h
theorem bl_of_chain {o p : COp} {aσ : Sl} {A : AH} {v : AV} {A' : AH} (h : evE c (.chain o p a' b' d') aσ A = .ok v A') : ∃ b, v = .bl b := by
  simp only [evE] at h
  cases e1 : evE c a' aσ A with
  | bad => simp [e1, Res.bind] at h
  | ok x A1 =>
    simp only [e1, Res.bind] at h
    cases e2 : evE c b' aσ A1 with
    | bad => simp [e2, Res.bind] at h
    | ok y A2 =>
      simp only [e2] at h
      split at h
      · cases e3 : evE c d' aσ A2 with
        | bad => simp [e3] at h
        | ok z A3 =>
          simp only [e3] at h
          split at h
          · cases h; exact ⟨_, rfl⟩
          · cases h
      · cases h; exact ⟨_, rfl⟩
      · cases h
theorem s_cmp {o : CmpOp} (hu : X.A.units + 65 < cLine) (hs : NoStar b) (ha : PE X a (rdE X.K c a')) (hb : PE X b (rdE X.K c b')) :
    PE X (.Compare a [o] [b] pos) (rdE X.K c (.cmp (copOf o) a' b')) ∧ PT X (.Compare a [o] [b] pos) (rdT X.K c (.cmp (copOf o) a' b')) := by
  have ho := op_cmp (X := X) (o := copOf o) hu
  rw [cmOf_cop] at ho
  exact ⟨PE.mono (pe_cmpR ho ha hb (behind_of hs)) fun σ H Q h => rd_cmp h, PT.mono (pt_cmpR ho ha hb (behind_of hs)) fun σ H Q h => rd_cmp (rd_test (fun _ _ _ _ e => bl_of_cmp e) h)⟩
theorem rd_chain {o p : COp} (h : rdE K c (.chain o p a' b' d') σ H Q) : tChain (rCmp K (aCmp o)) (rCmp K (aCmp p)) (rdE K c a') (rdE K c b') (rdE K c d') σ H Q := by
  obtain ⟨m, A, aσ, R, S, h⟩ := h
  refine FG.two (R' := fun _ _ _ _ _ _ _ => True) R S h fun v w A2 m2 H2 x y R2 S2 rx ry h2 => ?_
  cases e : aCmp o v w A2 with
  | none => rw [e] at h2; exact False.elim h2
  | some k =>
    rw [e] at h2
    refine ⟨m2, A2, v, w, k, R2, rx, ry, e, k, rfl, ?_⟩
    cases k with
    | false => rw [if_neg Bool.false_ne_true]; exact Fin.here R2 h2 (.bl false)
    | true =>
      rw [if_pos rfl]
      refine ⟨m2, A2, aσ, R2, S2, FG.imp (FG.bind h2) fun z A3 m3 H3 t3 R3 h3 u ru => ?_⟩
      obtain ⟨k', e', q⟩ := FG.cmp R3 h3
      exact ⟨m3, A3, w, z, k', R3, ry.mono t3, ru, e', q⟩
theorem s_chain {o p : CmpOp} (hu : X.A.units + 65 < cLine) (hs : NoStar d) (ha : PE X a (rdE X.K c a')) (hb : PE X b (rdE X.K c b')) (hd : PE X d (rdE X.K c d')) :
    PE X (.Compare a [o, p] [b, d] pos) (rdE X.K c (.chain (copOf o) (copOf p) a' b' d')) ∧ PT X (.Compare a [o, p] [b, d] pos) (rdT X.K c (.chain (copOf o) (copOf p) a' b' d')) := by
  have ho := op_cmp (X := X) (o := copOf o) hu
  have hp := op_cmp (X := X) (o := copOf p) hu
  rw [cmOf_cop] at ho hp
  exact ⟨PE.mono (pe_chain ho hp ha hb hd (lastMarks_of hs)) fun σ H Q h => rd_chain h, PT.mono (pt_chain ho hp ha hb hd (lastMarks_of hs)) fun σ H Q h => rd_chain (rd_test (fun _ _ _ _ e => bl_of_chain e) h)⟩
theorem s_not (ha : PE X a (rdE X.K c a')) (ht : PT X a (rdT X.K c a')) : PE X (.UnaryOp .Not a pos) (rdE X.K c (.not a')) ∧ PT X (.UnaryOp .Not a pos) (rdT X.K c (.not a')) := by
  refine ⟨PE.mono (pe_notT ha) fun σ H Q ⟨m, A, aσ, R, S, h⟩ => ⟨m, A, aσ, R, S, FG.imp (FG.bind h) fun v A1 m1 H1 t1 R1 h1 x rx => ?_⟩, PT.mono (pt_not ht) fun σ H Q ⟨m, A, aσ, R, S, h⟩ => ⟨m, A, aσ, R, S, ?_⟩⟩
  · cases e : truth A1 v with
    | none => rw [e] at h1; exact False.elim h1
    | some k => rw [e] at h1; exact ⟨k, R1.truth rx e, Fin.here R1 h1 (.bl _)⟩
  · unfold evT at h ⊢
    simp only [evE] at h
    cases e : evE c a' aσ A with
    | bad => rw [e] at h; exact False.elim h
    | ok v A1 =>
      rw [e] at h
      simp only [Res.bind] at h ⊢
      unfold tru at h ⊢
      cases e2 : truth A1 v with
      | none => rw [e2] at h; exact False.elim h
      | some k => rw [e2] at h; exact h
theorem s_ite (hq : PT X a (rdT X.K c a')) (hb : PE X b (rdE X.K c b')) (hd : PE X d (rdE X.K c d')) : PE X (.IfExp a b d pos) (rdE X.K c (.ite a' b' d')) :=
  PE.mono (pe_ifExp hq hb hd) fun σ H Q ⟨m, A, aσ, R, S, h⟩ => ⟨m, A, aσ, R, S, FG.imp (FG.bind h) fun k A1 m1 H1 t1 R1 h1 => by
    cases k with
    | true => rw [if_pos rfl]; exact ⟨m1, A1, aσ, R1, S.mono t1, h1⟩
    | false => rw [if_neg Bool.false_ne_true]; exact ⟨m1, A1, aσ, R1, S.mono t1, h1⟩⟩
theorem s_truth (he : ∀ whole, isTrue a X.env whole = (do let v ← whole; standAt a.pos; holding [v] (truthy v))) (ha : PE X a (rdE X.K c a')) : PT X a (rdT X.K c a') :=
  PT.mono (pt_truth ha he) fun σ H Q h => rd_truth h
/-- and, or: one, and one more -/
theorem s_and {rest : List Expr} {r' : E} {pos : Pos} (ha : PE X a (rdE X.K c a')) (ht : PT X a (rdT X.K c a')) (hr : PE X (.BoolOp .And (b :: rest) pos) (rdE X.K c r')) (hw : PW X (.BoolOp .And (b :: rest) pos) (rdT X.K c r')) :
    PE X (.BoolOp .And (a :: b :: rest) pos) (rdE X.K c (.and a' r')) ∧ PW X (.BoolOp .And (a :: b :: rest) pos) (rdT X.K c (.and a' r')) := by
  refine ⟨PE.mono (pe_andT ha hr) fun σ H Q ⟨m, A, aσ, R, S, h⟩ => ⟨m, A, aσ, R, S, FG.imp (FG.bind h) fun v A1 m1 H1 t1 R1 h1 x rx => ?_⟩, PW.mono (pw_and ht hw) fun σ H Q ⟨m, A, aσ, R, S, h⟩ => ⟨m, A, aσ, R, S, ?_⟩⟩
  · cases e : truth A1 v with
    | none => rw [e] at h1; exact False.elim h1
    | some k =>
      rw [e] at h1
      refine ⟨k, R1.truth rx e, ?_⟩
      cases k with
      | true => rw [if_pos rfl]; exact ⟨m1, A1, aσ, R1, S.mono t1, h1⟩
      | false => rw [if_neg Bool.false_ne_true]; exact Fin.here R1 h1 rx
  · unfold evT at h
    simp only [evE] at h
    unfold FinT evT
    cases e : evE c a' aσ A with
    | bad => rw [e] at h; exact False.elim h
    | ok v A1 =>
      rw [e] at h
      simp only [Res.bind] at h ⊢
      unfold tru
      cases e2 : truth A1 v with
      | none => rw [e2] at h; exact False.elim h
      | some k =>
        rw [e2] at h
        intro m1 H1 t1 R1
        cases k with
        | true => simp only [if_pos]; exact ⟨m1, A1, aσ, R1, S.mono t1, FG.shift h t1⟩
        | false =>
          simp only at h
          unfold tru at h
          rw [e2] at h
          simp only [Bool.false_eq_true, if_false]
          exact h m1 H1 t1 R1
theorem s_or {rest : List Expr} {r' : E} {pos : Pos} (ha : PE X a (rdE X.K c a')) (ht : PT X a (rdT X.K c a')) (hr : PE X (.BoolOp .Or (b :: rest) pos) (rdE X.K c r')) (hw : PW X (.BoolOp .Or (b :: rest) pos) (rdT X.K c r')) :
    PE X (.BoolOp .Or (a :: b :: rest) pos) (rdE X.K c (.or a' r')) ∧ PW X (.BoolOp .Or (a :: b :: rest) pos) (rdT X.K c (.or a' r')) := by
  refine ⟨PE.mono (pe_orT ha hr) fun σ H Q ⟨m, A, aσ, R, S, h⟩ => ⟨m, A, aσ, R, S, FG.imp (FG.bind h) fun v A1 m1 H1 t1 R1 h1 x rx => ?_⟩, PW.mono (pw_or ht hw) fun σ H Q ⟨m, A, aσ, R, S, h⟩ => ⟨m, A, aσ, R, S, ?_⟩⟩
  · cases e : truth A1 v with
    | none => rw [e] at h1; exact False.elim h1
    | some k =>
      rw [e] at h1
      refine ⟨k, R1.truth rx e, ?_⟩
      cases k with
      | true => rw [if_pos rfl]; exact Fin.here R1 h1 rx
      | false => rw [if_neg Bool.false_ne_true]; exact ⟨m1, A1, aσ, R1, S.mono t1, h1⟩
  · unfold evT at h
    simp only [evE] at h
    unfold FinT evT
    cases e : evE c a' aσ A with
    | bad => rw [e] at h; exact False.elim h
    | ok v A1 =>
      rw [e] at h
      simp only [Res.bind] at h ⊢
      unfold tru
      cases e2 : truth A1 v with
      | none => rw [e2] at h; exact False.elim h
      | some k =>
        rw [e2] at h
        intro m1 H1 t1 R1
        cases k with
        | false => simp only [Bool.false_eq_true, if_false]; exact ⟨m1, A1, aσ, R1, S.mono t1, FG.shift h t1⟩
        | true =>
          simp only at h
          unfold tru at h
          rw [e2] at h
          simp only [if_pos]
          exact h m1 H1 t1 R1
/-- arguments -/
theorem s_nil : PA X [] (rdEs X.K c []) := PA.mono pa_nil fun σ H Q ⟨m, A, aσ, R, S, h⟩ => h m H Tr.refl R [] .nil
theorem s_cons {es : List Expr} {es' : List E} (hs : NoStar a) (ha : PE X a (rdE X.K c a')) (hr : PA X es (rdEs X.K c es')) : PA X (a :: es) (rdEs X.K c (a' :: es')) :=
  PA.mono (pa_cons ha hr (starEach_cons hs)) fun σ H Q ⟨m, A, aσ, R, S, h⟩ => ⟨m, A, aσ, R, S, FG.imp (FG.bind h) fun v A1 m1 H1 t1 R1 h1 x rx =>
    ⟨m1, A1, aσ, R1, S.mono t1, FG.imp (FG.bind h1) fun vs A2 m2 H2 t2 R2 h2 ys ry => h2 m2 H2 Tr.refl R2 _ (.cons (rx.mono t2) ry)⟩⟩
theorem s_tup {es : List Expr} {es' : List E} {x1} (h : PA X es (rdEs X.K c es')) : PE X (.Tuple es x1 pos) (rdE X.K c (.tup es')) :=
  PE.mono (pe_tup h) fun σ H Q ⟨m, A, aσ, R, S, h⟩ => ⟨m, A, aσ, R, S, FG.imp (FG.bind h) fun vs A1 m1 H1 t1 R1 h1 ys ry => by
    split at h1
    · rename_i hz
      rw [ry.length] at hz
      exact ⟨hz, fun p np => Fin.tupNew R1 h1 ry np⟩
    · exact False.elim h1⟩
theorem s_ix (hp : PlainIx b) (ha : PE X a (rdE X.K c a')) (hb : PE X b (rdE X.K c b')) : PE X (.Subscript a b pos) (rdE X.K c (.ix a' b')) :=
  PE.mono (pe_ix ix_A ha hb hp) fun σ H Q ⟨m, A, aσ, R, S, h⟩ => FG.two (R' := fun _ _ _ _ _ _ _ => True) R S h fun v w A2 m2 H2 x y R2 S2 rx ry h2 => by
    cases e : aIx v w A2 with
    | none => rw [e] at h2; exact False.elim h2
    | some u => rw [e] at h2; exact ⟨m2, A2, v, w, u, R2, rx, ry, e, fun z rz => Fin.here R2 h2 rz⟩
theorem s_ono : PO X none (rdO X.K c none) := PO.mono po_none fun σ H Q ⟨m, A, aσ, R, S, h⟩ => h m H Tr.refl R
theorem s_osome (ha : PE X a (rdE X.K c a')) : PO X (some a) (rdO X.K c (some a')) :=
  PO.mono (po_some ha) fun σ H Q ⟨m, A, aσ, R, S, h⟩ => ⟨m, A, aσ, R, S, FG.imp (FG.bind h) fun v A1 m1 H1 t1 R1 h1 x rx => by
    cases rx with
    | int i => exact ⟨i, rfl, h1 m1 H1 Tr.refl R1⟩
    | _ => exact False.elim h1⟩
theorem s_sl {lo hi : Option Expr} {lo' hi' : Option E} {p2 : Pos} (ha : PE X a (rdE X.K c a')) (hl : PO X lo (rdO X.K c lo')) (hh : PO X hi (rdO X.K c hi')) : PE X (.Subscript a (.Slice lo hi none p2) pos) (rdE X.K c (.sl a' lo' hi')) :=
  PE.mono (pe_slice sl_A ha hl hh) fun σ H Q ⟨m, A, aσ, R, S, h⟩ => ⟨m, A, aσ, R, S, FG.imp (FG.bind h) fun v A1 m1 H1 t1 R1 h1 x rx =>
    ⟨m1, A1, aσ, R1, S.mono t1, FG.imp (FG.bind h1) fun l A2 m2 H2 t2 R2 h2 => ⟨m2, A2, aσ, R2, (S.mono t1).mono t2, FG.imp (FG.bind h2) fun u A3 m3 H3 t3 R3 h3 => ⟨m3, A3, v, R3, (rx.mono t2).mono t3, h3⟩⟩⟩⟩
theorem rd_args {es' : List E} {f : List AV → AH → Res AV} {m : List Addr} {A : AH} {aσ : Sl} (R : RelH K m A H) (S : RSl K H m aσ σ) (h : Fin K m H ((evEs c es' aσ A).bind f) Q) : rdEs K c es' σ H fun vs H1 => rCallA K f vs H1 Q :=
  ⟨m, A, aσ, R, S, FG.imp (FG.bind h) fun vs A1 m1 H1 t1 R1 h1 ys ry => ⟨m1, A1, vs, R1, ry, h1⟩⟩
/-- a new list that is kept -/
theorem s_new {l : L} (h : PE X a (rdL X.K c l)) : PE X a (rdE X.K c (.new l)) := by
  refine PE.mono h fun σ H Q ⟨m, A, aσ, R, S, h⟩ => ⟨m, A, aσ, R, S, ?_⟩
  simp only [evE] at h
  cases e : evL c l aσ A with
  | bad => rw [e] at h; exact False.elim h
  | ok vs A1 =>
    rw [e] at h
    intro m1 H1 t1 R1 D ys hD nD nH ry
    have st : Stay X.K m1 H1 (m1 ++ [D]) H1 := ⟨fun i c e => by rw [List.getElem?_append_left (List.getElem?_eq_some_iff.mp e).1]; exact e, fun _ _ e => e, fun _ _ e => e⟩
    refine h (m1 ++ [D]) H1 (t1.adopt nH) (R1.adopt nD ⟨ys, hD, RVs.mono0 st ry⟩) _ (.ref ?_)
    rw [← R1.len, List.getElem?_append_right (Nat.le_refl _)]; simp
theorem rd_new {l : L} {f : LF} (h : rdE K c (.lf f l) σ H Q) : tCB (rCallF K (aLF f)) (tCons (rdL K c l) tNil) σ H Q := by
  obtain ⟨m, A, aσ, R, S, h⟩ := h
  exact ⟨m, A, aσ, R, S, FG.imp (FG.bind h) fun vs A1 m1 H1 t1 R1 h1 D ys hD nD nH ry => ⟨m1, A1, vs, ys, D, rfl, .of hD, R1, ry, h1⟩⟩
/-- a written list -/
theorem s_disp {es : List Expr} {es' : List E} (h : PA X es (rdEs X.K c es')) : PE X (.List es pos) (rdL X.K c (.disp es')) := by
  refine PE.mono (pe_lst h) fun σ H Q ⟨m, A, aσ, R, S, h⟩ => ⟨m, A, aσ, R, S, ?_⟩
  simp only [evL] at h
  cases e : evEs c es' aσ A with
  | bad => rw [e] at h; exact False.elim h
  | ok vs A1 =>
    rw [e] at h
    simp only [Res.bind] at h
    intro m1 H1 t1 R1 ys ry
    split at h
    · rename_i hz
      rw [ry.length] at hz
      refine ⟨hz, fun p np => ?_⟩
      have t2 : Tr m1 H1 m1 (upd H1 p (.lst ys)) := Tr.more R1 np
      refine h m1 _ (t1.trans t2) (R1.more np) p ys upd_same (R1.fresh np) ?_ (ry.mono t2)
      cases q : H p with
      | none => rfl
      | some o =>
        exfalso
        by_cases hm : p ∈ m
        · obtain ⟨u, e, _⟩ := R1.there (List.IsPrefix.subset t1.pre hm)
          rw [np] at e; cases e
        · have := t1.keep p o q hm
          rw [np] at this; cases this
    · exact False.elim h
/-- built-ins -/
theorem s_bif1 {es : List Expr} {x : Str} {id : String} {p : Pos} {f : Bif} {es' : List E} (hc : CallR X (.builtin id) (rCallA X.K (aBif f))) (hg : Gl X x) (hm : X.mg x = none) (hv : bootBuiltins x = some (.builtin id)) (hx : okName x = true)
    (ns : ∀ e ∈ a :: es, NoStar e) (ha : PA X (a :: es) (rdEs X.K c es')) : PE X (.Call (.Name x p) (a :: es) [] pos) (rdE X.K c (.bif f es')) :=
  PE.mono (pe_callB hc hg hm hv ha (okName_of hx).2.2 (okName_of hx).1 (starEach_cons (ns a (by simp))) (starPlain fun e he => ns e (List.mem_cons_of_mem _ he))) fun σ H Q ⟨m, A, aσ, R, S, h⟩ => rd_args R S h
theorem s_bifT {es : List Expr} {x : Str} {id : String} {p : Pos} {f : Bif} {es' : List E} (hc : CallR X (.type id) (rCallA X.K (aBif f))) (hg : Gl X x) (hm : X.mg x = none) (hv : bootBuiltins x = some (.type id)) (hx : okName x = true)
    (ns : ∀ e ∈ a :: es, NoStar e) (ha : PA X (a :: es) (rdEs X.K c es')) : PE X (.Call (.Name x p) (a :: es) [] pos) (rdE X.K c (.bif f es')) :=
  PE.mono (pe_callTy hc hg hm hv ha (okName_of hx).2.2 (okName_of hx).1 (starEach_cons (ns a (by simp))) (starPlain fun e he => ns e (List.mem_cons_of_mem _ he))) fun σ H Q ⟨m, A, aσ, R, S, h⟩ => rd_args R S h
theorem s_gcd {es : List Expr} {x : Str} {p : Pos} {es' : List E} (hg : Gl X x) (hm : X.mg x = some (.builtin "math.gcd")) (hx : okName x = true)
    (ns : ∀ e ∈ a :: es, NoStar e) (ha : PA X (a :: es) (rdEs X.K c es')) : PE X (.Call (.Name x p) (a :: es) [] pos) (rdE X.K c (.bif .gcd es')) :=
  PE.mono (pe_callBfun cb_gcd hg hm ha (okName_of hx).1 (starEach_cons (ns a (by simp))) (starPlain fun e he => ns e (List.mem_cons_of_mem _ he))) fun σ H Q ⟨m, A, aσ, R, S, h⟩ => rd_args R S h
theorem s_lf1 {x : Str} {id : String} {p : Pos} {f : LF} {l : L} (hc : CallR X (.builtin id) (rCallF X.K (aLF f))) (hg : Gl X x) (hm : X.mg x = none) (hv : bootBuiltins x = some (.builtin id)) (hx : okName x = true)
    (ns : NoStar a) (ha : PE X a (rdL X.K c l)) : PE X (.Call (.Name x p) [a] [] pos) (rdE X.K c (.lf f l)) :=
  PE.mono (pe_callB hc hg hm hv (pa_cons ha pa_nil (starEach_cons ns)) (okName_of hx).2.2 (okName_of hx).1 (starEach_cons ns) rfl) fun σ H Q h => rd_new h
theorem s_lfT {x : Str} {id : String} {p : Pos} {f : LF} {l : L} (hc : CallR X (.type id) (rCallF X.K (aLF f))) (hg : Gl X x) (hm : X.mg x = none) (hv : bootBuiltins x = some (.type id)) (hx : okName x = true)
    (ns : NoStar a) (ha : PE X a (rdL X.K c l)) : PE X (.Call (.Name x p) [a] [] pos) (rdE X.K c (.lf f l)) :=
  PE.mono (pe_callTy hc hg hm hv (pa_cons ha pa_nil (starEach_cons ns)) (okName_of hx).2.2 (okName_of hx).1 (starEach_cons ns) rfl) fun σ H Q h => rd_new h
theorem RVs.lenV {m : List Addr} {xs : List AV} {ys : List V} (r : RVs K H m xs ys) : xs.length = ys.length := r.length
/-- own defs -/
theorem s_call {es : List Expr} {x : Str} {p : Pos} {es' : List E} {f : Addr} {fd : FuncData} {ps : List Str} {dvs : List V} {ds : List Value} {dflt : List AV} (F : FnOk X.prog X.w X.K X.mg X.base CX0 k f fd ps (spEv X.K c x)) (hr : Room k X.A) (hg : Gl X x)
    (hm : X.mg x = some (.ref f)) (hk : PySem.W.keepIn X.K (.ref f) = true) (hb : Binds X.K fd ps ds) (hd : Vals dvs ds) (hdf : ∀ H m, RVs X.K H m dflt dvs) (hx : okName x = true) (ns : ∀ e ∈ a :: es, NoStar e) (ha : PA X (a :: es) (rdEs X.K c es')) :
    PE X (.Call (.Name x p) (a :: es) [] pos) (rdE X.K c (.call x es' dflt)) :=
  PE.mono (pe_call F hr hg hm hk hb hd (E := E0) (fun _ _ _ _ _ _ _ h => h.elim) ha (okName_of hx).1 (starEach_cons (ns a (by simp))) (starPlain fun e he => ns e (List.mem_cons_of_mem _ he))) fun σ H Q ⟨m, A, aσ, R, S, h⟩ =>
    ⟨m, A, aσ, R, S, FG.imp (FG.bind h) fun vs A1 m1 H1 t1 R1 h1 ys ry => ⟨m1, A1, vs ++ dflt, R1, ry.append (hdf _ _), h1⟩⟩
theorem s_call0 {x : Str} {p : Pos} {f : Addr} {fd : FuncData} {ps : List Str} {dvs : List V} {ds : List Value} {dflt : List AV} (F : FnOk X.prog X.w X.K X.mg X.base CX0 k f fd ps (spEv X.K c x)) (hr : Room k X.A) (hg : Gl X x)
    (hm : X.mg x = some (.ref f)) (hk : PySem.W.keepIn X.K (.ref f) = true) (hb : Binds X.K fd ps ds) (hd : Vals dvs ds) (hdf : ∀ H m, RVs X.K H m dflt dvs) (hx : okName x = true) :
    PE X (.Call (.Name x p) [] [] pos) (rdE X.K c (.call x [] dflt)) :=
  PE.mono (pe_call0 F hr hg hm hk hb hd (E := E0) (fun _ _ _ _ _ _ _ h => h.elim) (okName_of hx).1) fun σ H Q ⟨m, A, aσ, R, S, h⟩ => ⟨m, A, dflt, R, hdf _ _, h⟩
/-- methods -/
theorem ty_lst {m : List Addr} {A : AH} {f : Mth} {v : AV} {x : V} (R : RelH K m A H) (r : RV K H m v x) (h : mthTy f v A = true) : tyV K "list" x H := by
  unfold mthTy at h
  cases r with
  | @ref n a hm =>
    simp only at h
    split at h
    · rename_i ys q
      obtain ⟨zs, e, _⟩ := R.of hm q
      exact .inl ⟨rfl, zs, .of e⟩
    · cases h
  | _ => cases h
theorem rd_mth0 {f : Mth} (h : rdE K c (.mth f a' []) σ H Q) : tBM0 K "list" (rMth K f) (rdE K c a') σ H Q := by
  obtain ⟨m, A, aσ, R, S, h⟩ := h
  refine ⟨m, A, aσ, R, S, FG.imp (FG.bind h) fun v A1 m1 H1 t1 R1 h1 x rx => ?_⟩
  split at h1
  · rename_i hz
    exact ⟨ty_lst R1 rx hz, m1, A1, v, [], R1, rx, .nil, h1⟩
  · exact False.elim h1
theorem rd_mth {f : Mth} {es' : List E} (h : rdE K c (.mth f a' es') σ H Q) : tBM K "list" (rMth K f) (rdE K c a') (rdEs K c es') σ H Q := by
  obtain ⟨m, A, aσ, R, S, h⟩ := h
  refine ⟨m, A, aσ, R, S, FG.imp (FG.bind h) fun v A1 m1 H1 t1 R1 h1 x rx => ?_⟩
  split at h1
  · rename_i hz
    exact ⟨ty_lst R1 rx hz, m1, A1, aσ, R1, S.mono t1, FG.imp (FG.bind h1) fun vs A2 m2 H2 t2 R2 h2 ys ry => ⟨m2, A2, v, vs, R2, rx.mono t2, ry, h2⟩⟩
  · exact False.elim h1
end
end Ev


set_option linter.all false
set_option maxRecDepth 100000
set_option maxHeartbeats 4000000
namespace Ev
open PySem PySem.Spec PyProof.Rows L2
section
variable {c : Cfg} {G : GI} {N : List Str} {k : Nat} {X : Cx} {sc : Scope}
variable {a b d : Expr} {a' b' d' : E} {pos : Pos} {K : PySem.W.Frag} {σ : L2.St} {H : Hp} {Q : VK}

/-! ### what is walked -/
theorem Tr.lst {m0 m : List Addr} {H0 H : Hp} {D : Addr} {u : HO} (t : Tr m0 H0 m H) (h : H0 D = some u) (n : D ∉ m0) : H D = some u ∧ D ∉ m :=
  ⟨t.keep D u h n, fun hb => by have := t.new D hb n; rw [h] at this; cases this⟩
theorem jok_tup {m0 : List Addr} {H0 : Hp} {xs : List AV} {ys : List V} {a : Addr} (h : SqT K H0 a ys) (r : RVs K H0 m0 xs ys) : JOk K (.val xs) m0 H0 (Itt K a) := by
  intro i m A H t R _
  have hs : SqT K H a ys := t.sqT h
  have hr := r.mono t
  refine ⟨fun av e => ?_, fun hl => ⟨ys, hs, by rw [← hr.length]; exact hl⟩⟩
  obtain ⟨y, e2, r2⟩ := hr.get e
  refine ⟨⟨ys, y, hs, e2⟩, fun x H' ⟨eH, f⟩ => ?_⟩
  subst eH
  have := f ys hs
  rw [e2] at this
  cases this
  exact ⟨Tr.refl, R, r2⟩
theorem jok_new {m0 : List Addr} {H0 : Hp} {xs : List AV} {ys : List V} {D : Addr} (h : H0 D = some (.lst ys)) (n : D ∉ m0) (r : RVs K H0 m0 xs ys) : JOk K (.val xs) m0 H0 (Itl K D) := by
  intro i m A H t R _
  have hs : SqL K H D ys := .of (t.lst h n).1
  have hr := r.mono t
  refine ⟨fun av e => ?_, fun hl => ⟨ys, hs, by rw [← hr.length]; exact hl⟩⟩
  obtain ⟨y, e2, r2⟩ := hr.get e
  refine ⟨⟨ys, y, hs, e2⟩, fun x H' ⟨eH, f⟩ => ?_⟩
  subst eH
  have := f ys hs
  rw [e2] at this
  cases this
  exact ⟨Tr.refl, R, r2⟩
theorem jok_fl {m0 : List Addr} {H0 : Hp} {xs : List AV} {ys : List V} {D : Addr} (h : SqF K H0 D ys) (r : RVs K H0 m0 xs ys) : JOk K (.val xs) m0 H0 (Itl K D) := by
  intro i m A H t R _
  have hs : SqL K H D ys := (t.sqF h).l
  have hr := r.mono t
  refine ⟨fun av e => ?_, fun hl => ⟨ys, hs, by rw [← hr.length]; exact hl⟩⟩
  obtain ⟨y, e2, r2⟩ := hr.get e
  refine ⟨⟨ys, y, hs, e2⟩, fun x H' ⟨eH, f⟩ => ?_⟩
  subst eH
  have := f ys hs
  rw [e2] at this
  cases this
  exact ⟨Tr.refl, R, r2⟩
theorem jok_obj {m0 : List Addr} {H0 : Hp} {xs : List AV} {n : Nat} {a : Addr} (hm : m0[n]? = some a) : JOk K (.obj n xs) m0 H0 (Itl K a) := by
  intro i m A H t R hc
  have hm' := t.getM hm
  have hc : A[n]? = some (.lst xs) := by
    unfold Itm.chk at hc
    exact @of_decide_eq_true _ (Classical.propDecidable _) hc
  obtain ⟨ys, hs, hr⟩ : ∃ ys, SqL K H a ys ∧ RVs K H m xs ys := by
    obtain ⟨ys, e, r⟩ := R.of hm' hc; exact ⟨ys, .of e, r⟩
  refine ⟨fun av e => ?_, fun hl => ⟨ys, hs, by rw [← hr.length]; exact hl⟩⟩
  obtain ⟨y, e2, r2⟩ := hr.get e
  refine ⟨⟨ys, y, hs, e2⟩, fun x H' ⟨eH, f⟩ => ?_⟩
  subst eH
  have := f ys hs
  rw [e2] at this
  cases this
  exact ⟨Tr.refl, R, r2⟩
theorem jok_range {m0 : List Addr} {H0 : Hp} (lo : Int) (n : Nat) : JOk K (.val ((List.range n).map fun (k : Nat) => AV.int (lo + k))) m0 H0 (Itr lo n) := by
  intro i m A H t R hc
  refine ⟨fun av e => ?_, fun hl => show n ≤ i by simpa [Itm.items] using hl⟩
  simp only [Itm.items, List.getElem?_map] at e
  by_cases hi : i < n
  · rw [List.getElem?_range hi] at e
    cases e
    refine ⟨hi, fun x H' ⟨eH, f⟩ => ?_⟩
    subst eH f
    exact ⟨Tr.refl, R, .int _⟩
  · rw [List.getElem?_eq_none (by simp; omega)] at e
    cases e
def iSeq (K : PySem.W.Frag) (tl : TE) : TI := fun σ H R => tl σ H fun x H1 => ∃ a, x = .ref a ∧ (((∃ xs, SqL K H1 a xs) ∧ R (Itl K a) H1) ∨ ((∃ xs, SqT K H1 a xs) ∧ R (Itt K a) H1))
theorem pi_seq {tg l : Expr} {tl : TE} (hl : PE X l tl) : PI X tg l (iSeq X.K tl) := by
  refine ⟨fun pins s σ H R I h => ?_⟩
  refine thn (hl.run pins s σ H _ I h) fun v s1 ⟨x, H1, I1, r1, q1⟩ => ?_
  obtain ⟨a, e, q⟩ := q1
  subst e
  cases r1
  rcases q with ⟨⟨xs, hq⟩, q⟩ | ⟨⟨xs, hq⟩, q⟩
  · obtain ⟨its, rv, p, hz⟩ := I1.list hq
    refine wpAny_pyIter_list p.isList ?_
    refine ⟨s1.heap.objs.size, [s1.heap.objs.size], _, _, H1, rfl, I1.kept (t' := s1.toks) fun b o e => Heap.get?_push_of_some _ e, turn_list a _, ⟨_, Heap.get?_push_size _ rfl, rfl, rfl⟩, fun b hb => ?_, q⟩
    have e : b = s1.heap.objs.size := by simpa using hb
    subst e
    exact I1.fpOk (Nat.le_refl _) (I1.hok.fresh (Nat.le_refl _))
  · obtain ⟨its, rv, p, hz⟩ := I1.tuple hq
    refine wpAny_pyIter_tuple (show s1.heap.IsTuple a its.toArray from p) ?_
    refine ⟨s1.heap.objs.size, [s1.heap.objs.size], _, _, H1, rfl, I1.kept (t' := s1.toks) fun b o e => Heap.get?_push_of_some _ e, turn_tuple a _, ⟨_, Heap.get?_push_size _ rfl, rfl, rfl⟩, fun b hb => ?_, q⟩
    have e : b = s1.heap.objs.size := by simpa using hb
    subst e
    exact I1.fpOk (Nat.le_refl _) (I1.hok.fresh (Nat.le_refl _))
theorem s_iv {tg : Expr} (ha : PE X a (rdE X.K c a')) : PI X tg a (rdI X.K c (.v a')) :=
  PI.mono (pi_seq ha) fun σ H R' ⟨m, A, aσ, R, S, h⟩ => ⟨m, A, aσ, R, S, FG.imp (FG.bind h) fun v A1 m1 H1 t1 R1 h1 x rx => by
    cases rx with
    | @tup xs a ys ht hs => exact ⟨a, rfl, .inr ⟨⟨ys, ht⟩, h1 m1 H1 Tr.refl R1 _ (jok_tup ht hs)⟩⟩
    | @fl xs a ys ht hs => exact ⟨a, rfl, .inl ⟨⟨ys, ht.l⟩, h1 m1 H1 Tr.refl R1 _ (jok_fl ht hs)⟩⟩
    | @ref n a hm =>
      simp only at h1
      cases q : A1[n]? with
      | none => rw [q] at h1; exact False.elim h1
      | some o =>
        rw [q] at h1
        have ro := R1.of hm q
        cases o with
        | lst xs => obtain ⟨ys, e, r⟩ := ro; exact ⟨a, rfl, .inl ⟨⟨ys, .of e⟩, h1 m1 H1 Tr.refl R1 _ (jok_obj hm)⟩⟩
        | _ => exact False.elim h1
    | _ => exact False.elim h1⟩
theorem s_il {tg : Expr} {l : L} (ha : PE X a (rdL X.K c l)) : PI X tg a (rdI X.K c (.l l)) :=
  PI.mono (pi_seq ha) fun σ H R' ⟨m, A, aσ, R, S, h⟩ => ⟨m, A, aσ, R, S, FG.imp (FG.bind h) fun v A1 m1 H1 t1 R1 h1 D ys hD nD nH ry =>
    ⟨D, rfl, .inl ⟨⟨ys, .of hD⟩, h1 m1 H1 Tr.refl R1 _ (jok_new hD nD ry)⟩⟩⟩
theorem s_ir1 {tg : Expr} {p : Pos} (hg : Gl X "range") (hm : X.mg "range" = none) (ns : NoStar a) (ha : PE X a (rdE X.K c a')) : PI X tg (.Call (.Name "range" p) [a] [] pos) (rdI X.K c (.range1 a')) :=
  PI.mono (pi_range1 hg hm (pa_cons ha pa_nil (starEach_cons ns)) (starEach_cons ns)) fun σ H R' ⟨m, A, aσ, R, S, h⟩ => ⟨m, A, aσ, R, S, FG.imp (FG.bind h) fun v A1 m1 H1 t1 R1 h1 x rx => by
    cases rx with
    | int j =>
      simp only at h1
      split at h1
      · rename_i hz
        have q := jok_range (K := X.K) (m0 := m1) (H0 := H1) 0 j.toNat
        simp only [Int.zero_add] at q
        exact ⟨j, rfl, hz.1, hz.2, h1 m1 H1 Tr.refl R1 _ q⟩
      · exact False.elim h1
    | _ => exact False.elim h1⟩
theorem s_ir2 {tg : Expr} {p : Pos} (hg : Gl X "range") (hm : X.mg "range" = none) (ns : NoStar a) (nb : NoStar b) (ha : PE X a (rdE X.K c a')) (hb : PE X b (rdE X.K c b')) : PI X tg (.Call (.Name "range" p) [a, b] [] pos) (rdI X.K c (.range2 a' b')) :=
  PI.mono (pi_range2 hg hm (pa_cons ha (pa_cons hb pa_nil (starEach_cons nb)) (starEach_cons ns)) (by rw [starEach_cons ns, starEach_cons nb]; rfl) (by rw [starEach_cons nb]; rfl)) fun σ H R' ⟨m, A, aσ, R, S, h⟩ =>
    ⟨m, A, aσ, R, S, FG.imp (FG.bind h) fun v A1 m1 H1 t1 R1 h1 x rx => ⟨m1, A1, aσ, R1, S.mono t1, FG.imp (FG.bind h1) fun w A2 m2 H2 t2 R2 h2 y ry => by
      cases rx with
      | int i =>
        cases ry with
        | int j =>
          simp only at h2
          split at h2
          · rename_i hz
            exact ⟨i, j, rfl, hz, h2 m2 H2 Tr.refl R2 _ (jok_range i _)⟩
          · exact False.elim h2
        | _ => exact False.elim h2
      | _ => exact False.elim h2⟩⟩

/-! ### targets -/
theorem SameOut.refl {l : List Nat} {σ : L2.St} : SameOut l σ σ := ⟨rfl, fun _ _ => rfl⟩
theorem SameOut.trans {l l' : List Nat} {σ σ' σ'' : L2.St} (h : SameOut l σ σ') (h' : SameOut l' σ' σ'') : SameOut (l ++ l') σ σ'' :=
  ⟨h'.1.trans h.1, fun i hi => (h'.2 i fun z => hi (List.mem_append_right _ z)).trans (h.2 i fun z => hi (List.mem_append_left _ z))⟩
theorem s_tn {x : Str} {i : Nat} (hN : X.N.Nodup) (hi : X.N[i]? = some x) (hx : L2.Loc X.env.scope x) (hf : X.fn x = true ∨ X.env.scope.names.lookup x = some .local) : PG X (.Name x pos) (rdTg X.K c (.name i)) :=
  PG.mono (pg_name hN hi hx hf) fun v σ H Q ⟨m, A, aσ, av, R, S, rv, h⟩ => h m H Tr.refl R _ (S.set i rv) ⟨by simp, fun j hj => by
    rw [List.getElem?_set_ne (fun z => hj (by simp [tslots, z]))]⟩
theorem s_tnil : PGs X [] (rdTs X.K c []) := PGs.mono pgs_nil fun vs σ H Q ⟨m, A, aσ, avs, R, S, rv, h⟩ => by
  cases rv with
  | nil => exact ⟨rfl, h m H Tr.refl R _ S SameOut.refl⟩
  | cons _ _ => exact False.elim h
theorem s_tcons {es : List Expr} {t : T} {ts : List T} (ns : NoStar a) (h1 : PG X a (rdTg X.K c t)) (h2 : PGs X es (rdTs X.K c ts)) : PGs X (a :: es) (rdTs X.K c (t :: ts)) :=
  PGs.mono (pgs_cons h1 h2 (by rw [assignEach_cons ns]; rfl)) fun vs σ H Q ⟨m, A, aσ, avs, R, S, rv, h⟩ => by
    cases rv with
    | nil => exact False.elim h
    | @cons x y xs ys r rs =>
      exact ⟨y, ys, rfl, m, A, aσ, x, R, S, r, FG.imp (FG.bind h) fun aσ1 A1 m1 H1 t1 R1 h1 σ1 S1 so1 => ⟨m1, A1, aσ1, xs, R1, S1, rs.mono t1, FG.imp h1 fun aσ2 A2 m2 H2 t2 R2 h2 σ2 S2 so2 => h2 σ2 S2 (so1.trans so2)⟩⟩
theorem assignEach_len {env : Env} : ∀ {es : List Expr}, (∀ e ∈ es, NoStar e) → (assignEach es env).length = es.length ∧ (assignEach es env).findIdx? (·.1) = none
  | [], _ => ⟨rfl, rfl⟩
  | e :: es, h => by
    rw [assignEach_cons (h e (by simp))]
    obtain ⟨h1, h2⟩ := assignEach_len (env := env) (es := es) fun x hx => h x (List.mem_cons_of_mem _ hx)
    exact ⟨by simp [h1], by rw [List.findIdx?_cons]; simp [h2]⟩
theorem s_ttup {es : List Expr} {ts : List T} {kk : Nat} (hc : X.calm = true) (ns : ∀ e ∈ es, NoStar e) (hl : ts.length = es.length) (h : PGs X es (rdTs X.K c ts)) : PG X (.Tuple es kk pos) (rdTg X.K c (.tup ts)) :=
  PG.mono (pg_tup hc h (assignEach_len ns).1 (assignEach_len ns).2) fun v σ H Q ⟨m, A, aσ, av, R, S, rv, h⟩ => by
    cases rv with
    | @tup xs a ys ht hs =>
      simp only [evTg] at h
      split at h
      · rename_i hz
        exact ⟨a, ys, rfl, ht, by rw [← hs.length, hz, hl], m, A, aσ, xs, R, S, hs, h⟩
      · exact False.elim h
    | _ => exact False.elim h
theorem s_tsub (nsl : ∀ l h p, b ≠ .Slice l h none p) (ha : PE X a (rdE X.K c a')) (hb : PE X b (rdE X.K c b')) : PG X (.Subscript a b pos) (rdTg X.K c (.sub a' b')) :=
  PG.mono (pg_sub ha hb set_A (by intro _; cases b <;> first | rfl | (rename_i l h s p; cases s <;> first | rfl | exact absurd rfl (nsl l h p)))) fun v σ H Q ⟨m, A, aσ, av, R, S, rv, h⟩ =>
    ⟨m, A, aσ, R, S, FG.imp (FG.bind h) fun o A1 m1 H1 t1 R1 h1 x rx => ⟨m1, A1, aσ, R1, S.mono t1, FG.imp (FG.bind h1) fun w A2 m2 H2 t2 R2 h2 y ry => by
      cases e : aSet o w av A2 with
      | none => rw [e] at h2; exact False.elim h2
      | some A3 =>
        rw [e] at h2
        exact ⟨m2, A2, o, w, av, A3, R2, rx.mono t2, ry, (rv.mono t1).mono t2, e, fun H' t R' => h2 m2 H' t R' σ (((S.mono t1).mono t2).mono t) SameOut.refl⟩⟩⟩

/-! ### list comprehensions -/
theorem wipe_get {σ : L2.St} {i : Nat} : ∀ {vs : List Nat}, (L2.wipe σ vs)[i]? = if i ∈ vs then (if i < σ.length then some none else none) else σ[i]?
  | [] => by simp [L2.wipe]
  | v :: vs => by
    show ((L2.wipe σ vs).set v none)[i]? = _
    by_cases h : i = v
    · subst h
      rw [List.getElem?_set]
      simp [L2.wipe_length]
    · rw [List.getElem?_set_ne (Ne.symm h), wipe_get]
      have : (i ∈ v :: vs) ↔ i ∈ vs := by simp [h]
      simp only [this]
theorem wipe_same {σ σ' : L2.St} {l vs : List Nat} (h : SameOut l (L2.wipe σ vs) σ') (hl : ∀ i ∈ l, i ∈ vs) : L2.wipe σ' vs = L2.wipe σ vs := by
  have hlen : σ'.length = σ.length := by rw [h.1, L2.wipe_length]
  refine List.ext_getElem? fun i => ?_
  rw [wipe_get, wipe_get, hlen]
  by_cases hi : i ∈ vs
  · simp only [hi, if_true]
  · simp only [hi, if_false]
    rw [h.2 i fun z => hi (hl i z), wipe_get]
    simp only [hi, if_false]
/-- .. without a shift -/
theorem FG.bind0 {α β : Type} {m : List Addr} {r : Res α} {f : α → AH → Res β} {P : β → AH → List Addr → Hp → Prop} (h : FG K m H (r.bind f) P) : FG K m H r fun a A1 _ _ => FG K m H (f a A1) P := by
  cases r with
  | ok a A => exact fun m' H' t' R' => h
  | bad => exact h
theorem Tr.apart {m m' : List Addr} {H' : Hp} {D : Addr} {u : HO} (t : Tr m H m' H') (n : H D = none) : Tr m H m' (upd H' D u) where
  pre := t.pre
  new := t.new
  keep := fun b o e nb => by rw [upd_ne (ne_of_none e n)]; exact t.keep b o e nb
  tups := fun b o e => ⟨fun xs z => by rw [upd_ne (ne_of_none e n)]; exact (t.tups b o e).1 xs z, fun q v z => by rw [upd_ne (ne_of_none e n)]; exact (t.tups b o e).2 q v z⟩
theorem RelH.apart {m : List Addr} {A : AH} {D : Addr} {xs ys : List V} (R : RelH K m A H) (n : D ∉ m) (h : H D = some (.lst xs)) : RelH K m A (upd H D (.lst ys)) ∧ Stay K m H m (upd H D (.lst ys)) := by
  have st : Stay K m H m (upd H D (.lst ys)) := ⟨fun _ _ e => e, fun a zs e => by
    rcases e with (e | ⟨o, e⟩) | e
    · exact .inl (.inl (by rw [upd_ne (fun z => by rw [z, h] at e; cases e)]; exact e))
    · exact .inl (.inr ⟨o, by rw [upd_ne (fun z => by rw [z, h] at e; cases e)]; exact e⟩)
    · exact .inr e, fun a zs e => by
    rcases e with ⟨o, e⟩ | e
    · exact .inl ⟨o, by rw [upd_ne (fun z => by rw [z, h] at e; cases e)]; exact e⟩
    · exact .inr e⟩
  exact ⟨⟨R.len, R.nd, fun i b o hb ho => (R.at_ i b o hb ho).mono0 st (upd_ne fun z => n (z ▸ List.mem_of_getElem? hb))⟩, st⟩
theorem rd_comp {own : List Nat} {it : I} {tg : T} {q' : E} (hl : ∀ i ∈ tslots tg, i ∈ own) (h : rdL K c (.comp own it tg q' a') σ H Q) :
    tLc (rdI K c it) (rdTg K c tg) (rdT K c q') (rdE K c a') own σ H Q := by
  obtain ⟨m, A, aσ, R, S, h⟩ := h
  refine ⟨m, A, aσ, R, S, FG.imp (FG.bind0 h) fun t A1 m1 H1 t1 R1 h1 J hJ D nD => ?_⟩
  have nH : H D = none := by
    cases q : H D with
    | none => rfl
    | some o =>
      exfalso
      by_cases hm : D ∈ m
      · obtain ⟨u, e, _⟩ := R1.there (List.IsPrefix.subset t1.pre hm)
        rw [nD] at e; cases e
      · have := t1.keep D o q hm
        rw [nD] at this; cases this
  have S0 : RSl K H m (wipeS aσ own) (L2.wipe σ own) := RSl.wipe own S
  refine ⟨fun i mm Hc => i ≤ t.items.length ∧ mm = t.items.length - i ∧ ∃ m' A' acc ys, Tr m H m' Hc ∧ Tr m1 H1 m' Hc ∧ RelH K m' A' Hc ∧ Hc D = some (.lst ys) ∧ D ∉ m' ∧ RVs K Hc m' acc ys ∧
      FG K m H (compGo t.chk (fun x A => evTg c tg x (wipeS aσ own) A) (fun σ A => (evE c q' σ A).bind tru) (fun σ A => evE c a' σ A) (t.items.drop i) acc A') (fun xs _ m' H' => ∀ D ys, H' D = some (.lst ys) → D ∉ m' → H D = none → RVs K H' m' xs ys → Q (.ref D) H'),
    ⟨t.items.length, Nat.zero_le _, rfl, m1, A1, [], [], t1.apart nH, Tr.more R1 nD, R1.more nD, upd_same, R1.fresh nD, .nil, by rw [List.drop_zero]; exact h1⟩, ?_⟩
  rintro i mm Hc ⟨hi, rfl, m', A', acc, ys, tr, tr1, R', hD, nDm, racc, g⟩
  by_cases hlt : i < t.items.length
  · rw [List.drop_eq_getElem_cons hlt] at g
    simp only [compGo] at g
    split at g
    · rename_i hc
      obtain ⟨hgo, hy⟩ := (hJ i m' A' Hc tr1 R' hc).1 _ (List.getElem?_eq_getElem hlt)
      refine .inr ⟨hgo, fun H' => ∃ mm', mm' < t.items.length - i ∧ (i + 1 ≤ t.items.length ∧ mm' = t.items.length - (i + 1) ∧ _), fun H' q => q, fun x H2 yl => ?_⟩
      obtain ⟨ty, R2, rx⟩ := hy x H2 yl
      have trA := tr.trans ty
      obtain ⟨hD2, nD2⟩ := ty.lst hD nDm
      refine ⟨m', A', wipeS aσ own, _, R2, S0.mono trA, rx, FG.imp (FG.shift (FG.bind0 g) trA) fun aσ3 A3 m3 H3 t3 R3 g3 σ3 S3 so => ?_⟩
      have trB := trA.trans t3
      obtain ⟨hD3, nD3⟩ := t3.lst hD2 nD2
      refine ⟨wipe_same so hl, m3, A3, aσ3, R3, S3, FG.imp (FG.shift (FG.bind0 g3) trB) fun kk A4 m4 H4 t4 R4 g4 => ?_⟩
      have trC := trB.trans t4
      obtain ⟨hD4, nD4⟩ := t4.lst hD3 nD3
      cases kk with
      | true =>
        dsimp only at g4 ⊢
        rw [if_pos rfl] at g4 ⊢
        refine ⟨m4, A4, aσ3, R4, S3.mono t4, FG.imp (FG.shift (FG.bind0 g4) trC) fun v A5 m5 H5 t5 R5 g5 y ry => ?_⟩
        obtain ⟨hD5, nD5⟩ := t5.lst hD4 nD4
        split at g5
        · rename_i hz
          have racc5 := (((racc.mono ty).mono t3).mono t4).mono t5
          rw [racc5.length] at hz
          refine ⟨ys, hD5, hz, t.items.length - (i + 1), by omega, hlt, rfl, m5, A5, acc ++ [v], ys ++ [y], (trC.trans t5).apart nH, ((((tr1.trans ty).trans t3).trans t4).trans t5).apart nD, ?_⟩
          obtain ⟨R6, st⟩ := R5.apart (ys := ys ++ [y]) nD5 hD5
          exact ⟨R6, upd_same, nD5, RVs.mono0 st (racc5.append (.one ry)), g5⟩
        · exact False.elim g5
      | false =>
        dsimp only at g4 ⊢
        rw [if_neg Bool.false_ne_true] at g4 ⊢
        exact ⟨t.items.length - (i + 1), by omega, hlt, rfl, m4, A4, acc, ys, trC, ((tr1.trans ty).trans t3).trans t4, R4, hD4, nD4, ((racc.mono ty).mono t3).mono t4, g4⟩
    · exact False.elim g
  · have e : i = t.items.length := by omega
    subst e
    rw [List.drop_length] at g
    simp only [compGo] at g
    split at g
    · rename_i hc
      exact .inl ⟨(hJ _ m' A' Hc tr1 R' hc).2 (Nat.le_refl _), g m' Hc tr R' D ys hD nDm nH racc⟩
    · exact False.elim g
end
end Ev


set_option linter.all false
set_option maxRecDepth 100000
set_option maxHeartbeats 4000000
namespace Ev
open PySem PySem.Spec PyProof.Rows L2
section
variable {c : Cfg} {G : GI} {N : List Str} {k : Nat} {X : Cx} {sc : Scope}
structure Snd (c : Cfg) (G : GI) (N : List Str) (k n : Nat) (X : Cx) (sc : Scope) : Prop where
  E : ∀ e e', trE G N n sc e = some e' → PE X e (rdE X.K c e') ∧ PT X e (rdT X.K c e')
  and_ : ∀ es e' pos, trAnd G N n sc es = some e' → PE X (.BoolOp .And es pos) (rdE X.K c e') ∧ PW X (.BoolOp .And es pos) (rdT X.K c e')
  or_ : ∀ es e' pos, trOr G N n sc es = some e' → PE X (.BoolOp .Or es pos) (rdE X.K c e') ∧ PW X (.BoolOp .Or es pos) (rdT X.K c e')
  Es : ∀ es es', trEs G N n sc es = some es' → PA X es (rdEs X.K c es')
  O : ∀ o o', trO G N n sc o = some o' → PO X o (rdO X.K c o')
  L : ∀ e l, trL G N n sc e = some l → PE X e (rdL X.K c l)
  Lc : ∀ elt gens scope pos l, trL G N n sc (.ListComp elt gens scope pos) = some l → ∃ (tg iter : Expr) (ifs : List Expr) (own : List (Str × Nat)) (wi : TI) (g : TG) (tt : TT) (te : TE), gens = [⟨tg, iter, ifs, 0⟩] ∧ PI X tg iter wi ∧
    BlkOk X.N X.env.scope scope own ∧ (∀ (s : Shared) (H : Hp) (C : Addr) (cl : List (Str × Addr)) (fp : List Addr), PG (X.blk s H scope (compEnvC scope cl C X.env) fp) tg g) ∧
    (∀ (s : Shared) (H : Hp) (C : Addr) (cl : List (Str × Addr)) (fp : List Addr), PTs (X.blk s H scope (compEnvC scope cl C X.env) fp) ifs tt) ∧
    (∀ (s : Shared) (H : Hp) (C : Addr) (cl : List (Str × Addr)) (fp : List Addr), PE (X.blk s H scope (compEnvC scope cl C X.env) fp) elt te) ∧ (∀ x, foldedSetIterable iter X.env x = pure x) ∧
    ∀ σ H Q, rdL X.K c l σ H Q → tLc wi g tt te (own.map (·.2)) σ H Q
  I : ∀ e tg it, trI G N n sc e tg = some it → PI X tg e (rdI X.K c it) ∧ NoStar e
  T : ∀ fc : Str → Bool, (∀ x, fc x = true → X.fn x = true) → ∀ e t, trT G N n fc sc e = some t → PG X e (rdTg X.K c t)
  Ts : ∀ fc : Str → Bool, (∀ x, fc x = true → X.fn x = true) → ∀ es ts, trTs G N n fc sc es = some ts → PGs X es (rdTs X.K c ts) ∧ (∀ e ∈ es, NoStar e) ∧ ts.length = es.length

theorem CxOk.hu (O : CxOk c G N k X sc) : X.A.units + 65 < cLine := by have := O.room.un; omega
theorem CxOk.blk (O : CxOk c G N k X sc) {scope : Scope} (s : Shared) (H : Hp) (C : Addr) (cl : List (Str × Addr)) (fp : List Addr) : CxOk c G N k (X.blk s H scope (compEnvC scope cl C X.env) fp) (relS scope sc) :=
  ⟨by show relabel scope X.env = relS scope sc; rw [← O.sc]; rfl, O.N, O.nd, O.calm, O.room, O.blt, O.gcd, O.con, O.fn⟩
theorem tyL {x : Str} {T : String} (h : tyOf x = some T) : RelV (.ty T) (.type T) := rfl
theorem lf_ok (hc : X.calm = true) (hblt : ∀ x, isBlt x = true → X.mg x = none) {x : Str} {f : LF} {a : Expr} {l : L} {p pos : Pos} (h : lfOf x = some f) (hb : isBlt x = true) (hg : Gl X x) (hx : okName x = true) (ns : NoStar a) (ha : PE X a (rdL X.K c l)) :
    PE X (.Call (.Name x p) [a] [] pos) (rdE X.K c (.lf f l)) := by
  have hm := hblt x hb
  unfold lfOf at h
  split at h
  · rename_i e; subst e; cases h; exact s_lfT lf_tup hg hm (by decide +kernel) hx ns ha
  · split at h
    · rename_i e; subst e; cases h; exact s_lf1 (lf_sum hc) hg hm (by decide +kernel) hx ns ha
    · split at h
      · rename_i e; subst e; cases h; exact s_lf1 (lf_all hc) hg hm (by decide +kernel) hx ns ha
      · split at h
        · rename_i e; subst e; cases h; exact s_lf1 (lf_any hc) hg hm (by decide +kernel) hx ns ha
        · split at h
          · rename_i e; subst e; cases h; exact s_lf1 lf_len hg hm (by decide +kernel) hx ns ha
          · split at h
            · rename_i e; subst e; cases h; exact s_lf1 (lf_max hc) hg hm (by decide +kernel) hx ns ha
            · split at h
              · rename_i e; subst e; cases h; exact s_lf1 (lf_min hc) hg hm (by decide +kernel) hx ns ha
              · cases h
theorem bifA_ok (hc : X.calm = true) (hblt : ∀ x, isBlt x = true → X.mg x = none) {x : Str} {n : Nat} {f : Bif} {a : Expr} {es : List Expr} {es' : List E} {p pos : Pos} (h : bifA x n = some f) (hb : isBlt x = true) (hg : Gl X x) (hx : okName x = true) (ns : ∀ e ∈ a :: es, NoStar e)
    (ha : PA X (a :: es) (rdEs X.K c es')) : PE X (.Call (.Name x p) (a :: es) [] pos) (rdE X.K c (.bif f es')) := by
  have hm := hblt x hb
  unfold bifA at h
  split at h
  · rename_i e; obtain ⟨e, _⟩ := e; subst e; cases h; exact s_bif1 cb_isinst hg hm (by decide +kernel) hx ns ha
  · split at h
    · rename_i e; obtain ⟨e, _⟩ := e; subst e; cases h; exact s_bif1 cb_len hg hm (by decide +kernel) hx ns ha
    · split at h
      · rename_i e; obtain ⟨e, _⟩ := e; subst e; cases h; exact s_bif1 cb_abs hg hm (by decide +kernel) hx ns ha
      · split at h
        · rename_i e; obtain ⟨e, _⟩ := e; subst e; cases h; exact s_bifT cb_int hg hm (by decide +kernel) hx ns ha
        · split at h
          · rename_i e; obtain ⟨e, _⟩ := e; subst e; cases h; exact s_bif1 (cb_min2 hc) hg hm (by decide +kernel) hx ns ha
          · split at h
            · rename_i e; obtain ⟨e, _⟩ := e; subst e; cases h; exact s_bif1 (cb_max2 hc) hg hm (by decide +kernel) hx ns ha
            · split at h
              · rename_i e; obtain ⟨e, _⟩ := e; subst e; cases h; exact s_bifT cb_listof hg hm (by decide +kernel) hx ns ha
              · split at h
                · rename_i e; obtain ⟨e, _⟩ := e; subst e; cases h; exact s_bifT cb_tupof hg hm (by decide +kernel) hx ns ha
                · cases h
theorem bifB_ok (hc : X.calm = true) (hblt : ∀ x, isBlt x = true → X.mg x = none) {x : Str} {n : Nat} {f : Bif} {a : Expr} {es : List Expr} {es' : List E} {p pos : Pos} (h : bifB x n = some f) (hb : isBlt x = true) (hg : Gl X x) (hx : okName x = true) (ns : ∀ e ∈ a :: es, NoStar e)
    (ha : PA X (a :: es) (rdEs X.K c es')) : PE X (.Call (.Name x p) (a :: es) [] pos) (rdE X.K c (.bif f es')) := by
  have hm := hblt x hb
  unfold bifB at h
  split at h
  · rename_i e; obtain ⟨e, _⟩ := e; subst e; cases h; exact s_bif1 (cb_lfof (lf_sum hc)) hg hm (by decide +kernel) hx ns ha
  · split at h
    · rename_i e; obtain ⟨e, _⟩ := e; subst e; cases h; exact s_bif1 (cb_lfof (lf_all hc)) hg hm (by decide +kernel) hx ns ha
    · split at h
      · rename_i e; obtain ⟨e, _⟩ := e; subst e; cases h; exact s_bif1 (cb_lfof (lf_any hc)) hg hm (by decide +kernel) hx ns ha
      · split at h
        · rename_i e; obtain ⟨e, _⟩ := e; subst e; cases h; exact s_bif1 (cb_lfof (lf_max hc)) hg hm (by decide +kernel) hx ns ha
        · split at h
          · rename_i e; obtain ⟨e, _⟩ := e; subst e; cases h; exact s_bif1 (cb_lfof (lf_min hc)) hg hm (by decide +kernel) hx ns ha
          · cases h
theorem bif_ok (hc : X.calm = true) (hblt : ∀ x, isBlt x = true → X.mg x = none) {x : Str} {n : Nat} {f : Bif} {a : Expr} {es : List Expr} {es' : List E} {p pos : Pos} (h : bifOf x n = some f) (hb : isBlt x = true) (hg : Gl X x) (hx : okName x = true) (ns : ∀ e ∈ a :: es, NoStar e)
    (ha : PA X (a :: es) (rdEs X.K c es')) : PE X (.Call (.Name x p) (a :: es) [] pos) (rdE X.K c (.bif f es')) := by
  unfold bifOf at h
  split at h
  · rename_i e; cases h; exact bifA_ok hc hblt e hb hg hx ns ha
  · exact bifB_ok hc hblt h hb hg hx ns ha
theorem mth_ok {x : Str} {o : Expr} {es : List Expr} {f : Mth} {o' : E} {es' : List E} {apos cpos : Pos} (h : mthOf x es.length = some f) (hl : (apos.endLine == cpos.line) = true) (hz : es.length < 29) (h0 : noCall0 o = true) (ns : ∀ e ∈ es, NoStar e)
    (ho : PE X o (rdE X.K c o')) (ha : PA X es (rdEs X.K c es')) (hlen : es'.length = es.length) : PE X (.Call (.Attribute o x apos) es [] cpos) (rdE X.K c (.mth f o' es')) := by
  have few : ∀ {e : Expr} {r : List Expr}, es = e :: r → ((backTo cpos (starEach (e :: r) X.env)).all (fun x => !x.1) && (backToKw cpos (keywordEach [] X.env)).all (fun x => x.1.isSome)
      && decide ((e :: r).length + ([] : List Keyword).length + (if ([] : List Keyword).isEmpty then 0 else 1) < 30)) = true := fun {e r} q => by
    rw [starAll (q ▸ ns)]
    have : (e :: r).length < 29 := q ▸ hz
    simp [backToKw, keywordEach] at this ⊢
    omega
  have one : ∀ {id : String} {name : Str} {f : Mth}, PlainAttrs "list" → Slot "list" name id → typeOf (.builtin id) = pure (.type "method_descriptor") → MtR X id (rMth X.K f) → es.length = 1 → PE X (.Call (.Attribute o name apos) es [] cpos) (rdE X.K c (.mth f o' es')) := fun {id name f} pa sl ty mt h1 => by
    cases es with
    | nil => cases h1
    | cons e r =>
      exact PE.mono (pe_bm pa sl ty mt ho ha (attrBase_of (noCall0_of h0)) (few rfl) hl (starEach_cons (ns e (by simp))) (starPlain fun x hx => ns x (List.mem_cons_of_mem _ hx))) fun σ H Q h => rd_mth h
  have zero : ∀ {id : String} {name : Str} {f : Mth}, PlainAttrs "list" → Slot "list" name id → typeOf (.builtin id) = pure (.type "method_descriptor") → MtR X id (rMth X.K f) → es.length = 0 → PE X (.Call (.Attribute o name apos) es [] cpos) (rdE X.K c (.mth f o' es')) := fun {id name f} pa sl ty mt h1 => by
    cases es with
    | cons e r => cases h1
    | nil =>
      cases es' with
      | cons _ _ => cases hlen
      | nil => exact PE.mono (pe_bm0 pa sl ty mt ho (attrBase_of (noCall0_of h0)) hl) fun σ H Q h => rd_mth0 h
  unfold mthOf at h
  split at h
  · rename_i e; obtain ⟨e, e2⟩ := e; subst e; cases h; exact one PySem.F.plainAttrs_list PySem.F.slot_list_append PySem.F.type_list_append mr_append e2
  · split at h
    · rename_i e; obtain ⟨e, e2⟩ := e; subst e; cases h; exact zero PySem.F.plainAttrs_list PySem.F.slot_list_pop PySem.F.type_list_pop mr_pop0 e2
    · split at h
      · rename_i e; obtain ⟨e, e2⟩ := e; subst e; cases h; exact one PySem.F.plainAttrs_list PySem.F.slot_list_pop PySem.F.type_list_pop mr_pop1 e2
      · split at h
        · rename_i e; obtain ⟨e, e2⟩ := e; subst e; cases h; exact zero PySem.F.plainAttrs_list PySem.F.slot_list_reverse PySem.F.type_list_reverse mr_reverse e2
        · split at h
          · rename_i e; obtain ⟨e, e2⟩ := e; subst e; cases h; exact one PySem.F.plainAttrs_list PySem.F.slot_list_extend PySem.F.type_list_extend mr_extend e2
          · cases h
theorem s_iteT {a b d : Expr} {a' b' d' : E} {pos : Pos} (hq : PT X a (rdT X.K c a')) (hb : PT X b (rdT X.K c b')) (hd : PT X d (rdT X.K c d')) : PT X (.IfExp a b d pos) (rdT X.K c (.ite a' b' d')) := by
  refine ⟨fun pins s σ H Q I ⟨m, A, aσ, R, S, h⟩ => isTrue_IfExp (thn (hq.run pins s σ H (fun kk H1 => if kk = true then rdT X.K c b' σ H1 Q else rdT X.K c d' σ H1 Q) I ⟨m, A, aσ, R, S, ?_⟩) fun kk s1 ⟨H1, I1, q1⟩ => ?_)⟩
  · have e : evT c (.ite a' b' d') aσ A = (evT c a' aσ A).bind fun k A => if k then evT c b' aσ A else evT c d' aσ A := by
      unfold evT
      simp only [evE]
      cases (evE c a' aσ A).bind tru with
      | bad => rfl
      | ok k A1 => cases k <;> rfl
    rw [e] at h
    refine FG.imp (FG.bind h) fun kk A1 m1 H1 t1 R1 h1 => ?_
    cases kk with
    | true => rw [if_pos rfl] at h1 ⊢; exact ⟨m1, A1, aσ, R1, S.mono t1, h1⟩
    | false => rw [if_neg Bool.false_ne_true] at h1 ⊢; exact ⟨m1, A1, aσ, R1, S.mono t1, h1⟩
  · cases kk with
    | true => rw [if_pos rfl] at q1 ⊢; exact hb.run pins s1 σ H1 Q I1 q1
    | false => rw [if_neg Bool.false_ne_true] at q1 ⊢; exact hd.run pins s1 σ H1 Q I1 q1
theorem snd : ∀ n X sc, CxOk c G N k X sc → Snd c G N k n X sc := by
  intro n
  induction n using Nat.strongRecOn with
  | _ n ih0 =>
  cases n with
  | zero =>
    intro X sc O
    exact ⟨fun e e' h => by simp [trE] at h, fun e e' p h => by simp [trAnd] at h, fun e e' p h => by simp [trOr] at h, fun e e' h => by simp [trEs] at h, fun e e' h => by simp [trO] at h, fun e e' h => by simp [trL] at h, fun _ _ _ _ _ h => by simp [trL] at h,
      fun e e' t h => by simp [trI] at h, fun _ _ e e' h => by simp [trT] at h, fun _ _ e e' h => by simp [trTs] at h⟩
  | succ n =>
    intro X sc O
    have ih := ih0 n (Nat.lt_succ_self n)
    have S := ih X sc O
    have hLc : ∀ elt gens scope pos l, trL G N (n + 1) sc (.ListComp elt gens scope pos) = some l → ∃ (tg iter : Expr) (ifs : List Expr) (own : List (Str × Nat)) (wi : TI) (g : TG) (tt : TT) (te : TE), gens = [⟨tg, iter, ifs, 0⟩] ∧ PI X tg iter wi ∧
        BlkOk X.N X.env.scope scope own ∧ (∀ (s : Shared) (H : Hp) (C : Addr) (cl : List (Str × Addr)) (fp : List Addr), PG (X.blk s H scope (compEnvC scope cl C X.env) fp) tg g) ∧
        (∀ (s : Shared) (H : Hp) (C : Addr) (cl : List (Str × Addr)) (fp : List Addr), PTs (X.blk s H scope (compEnvC scope cl C X.env) fp) ifs tt) ∧
        (∀ (s : Shared) (H : Hp) (C : Addr) (cl : List (Str × Addr)) (fp : List Addr), PE (X.blk s H scope (compEnvC scope cl C X.env) fp) elt te) ∧ (∀ x, foldedSetIterable iter X.env x = pure x) ∧
        ∀ σ H Q, rdL X.K c l σ H Q → tLc wi g tt te (own.map (·.2)) σ H Q := by
      intro elt gens scope pos l h
      cases gens with
      | nil => simp [trL] at h
      | cons g r =>
        cases r with
        | cons _ _ => simp [trL] at h
        | nil =>
          obtain ⟨tg, iter, ifs, asy⟩ := g
          simp only [trL] at h
          split at h
          · rename_i h0
            subst h0
            split at h
            · rename_i own it t a qs h1 h2 h3 h4 h5
              split at h
              · rename_i hz
                have hown : blkC N sc scope own = true := by
                  unfold ownOf at h1
                  simp only at h1
                  split at h1
                  · rename_i q; cases h1; exact q
                  · cases h1
                have ok : BlkOk X.N X.env.scope scope own := by rw [O.N, O.sc]; exact blkOk_by hown
                have hl : ∀ i ∈ tslots t, i ∈ own.map (·.2) := fun i hi => by
                  have := List.all_eq_true.mp hz i hi
                  simpa using this
                have B := fun s H C cl fp => ih _ _ (O.blk (scope := scope) s H C cl fp)
                have pg : ∀ s H C cl fp, PG (X.blk s H scope (compEnvC scope cl C X.env) fp) tg (rdTg X.K c t) := fun s H C cl fp => (B s H C cl fp).T _ (fun _ q => q) _ _ h3
                have pe : ∀ s H C cl fp, PE (X.blk s H scope (compEnvC scope cl C X.env) fp) elt (rdE X.K c a) := fun s H C cl fp => ((B s H C cl fp).E _ _ h4).1
                obtain ⟨pi, nsi⟩ := S.I _ _ _ h2
                have hq := trEs_len h5
                cases ifs with
                | nil =>
                  cases qs with
                  | cons _ _ => cases hq
                  | nil =>
                    cases h
                    refine ⟨tg, iter, [], own, _, _, rdT X.K c (.lit (.bl true)), _, rfl, pi, ok, pg, fun s H C cl fp => ?_, pe, folded_of nsi, fun σ H Q h => rd_comp hl h⟩
                    exact ⟨fun pins s σ H Q I q => pts_nil.run pins s σ H Q I (by obtain ⟨m, A, aσ, R, S, q⟩ := q; exact q m H Tr.refl R)⟩
                | cons q0 r =>
                  cases qs with
                  | nil => cases hq
                  | cons q' r' =>
                    cases r' with
                    | cons _ _ => cases h
                    | nil =>
                      cases r with
                      | cons _ _ => simp at hq
                      | nil =>
                        cases h
                        have q1 : trE G N (n - 1) (relS scope sc) q0 = some q' := by
                          cases n with
                          | zero => simp [trEs] at h5
                          | succ n' =>
                            simp only [trEs] at h5
                            split at h5
                            · rename_i u v g1 g2; cases h5; exact g1
                            · cases h5
                        have B1 := fun s H C cl fp => ih0 (n - 1) (by omega) _ _ (O.blk (scope := scope) s H C cl fp)
                        exact ⟨tg, iter, [q0], own, _, _, rdT X.K c q', _, rfl, pi, ok, pg, fun s H C cl fp => pts_one ((B1 s H C cl fp).E _ _ q1).2, pe, folded_of nsi, fun σ H Q h => rd_comp hl h⟩
              · cases h
            · cases h
          · cases h
    have hL : ∀ e l, trL G N (n + 1) sc e = some l → PE X e (rdL X.K c l) := by
      intro e l h
      cases e with
      | List es pos =>
        simp only [trL] at h
        cases q : trEs G N n sc es with
        | none => rw [q] at h; cases h
        | some es' => rw [q] at h; cases h; exact s_disp (S.Es _ _ q)
      | ListComp elt gens scope pos =>
        obtain ⟨tg, iter, ifs, own, wi, g, tt, te, e1, pi, ok, pg, pt, pe, fo, rd⟩ := hLc _ _ _ _ _ h
        subst e1
        exact PE.mono (pe_lc O.calm O.nd pi ok pg pt pe fo) rd
      | _ => simp [trL] at h
    have hLs : ∀ e l, trL G N n sc e = some l → PE X e (rdL X.K c l) := S.L
    have truth_of : ∀ {e e'}, PE X e (rdE X.K c e') → (∀ whole, isTrue e X.env whole = (do let v ← whole; standAt e.pos; holding [v] (truthy v))) → PE X e (rdE X.K c e') ∧ PT X e (rdT X.K c e') := fun h ht => ⟨h, s_truth ht h⟩
    refine ⟨?E, ?A, ?O', ?Es, ?Op, hL, hLc, ?I, ?T, ?Ts⟩
    case E =>
      intro e e' h
      cases e with
      | Constant q kk pos =>
        refine truth_of ?_ (fun _ => rfl)
        cases q with
        | none => cases h; exact PE.mono pe_non fun σ H Q ⟨m, A, aσ, R, S, q⟩ => Fin.here R q .non
        | bool b => cases h; exact PE.mono pe_bl fun σ H Q ⟨m, A, aσ, R, S, q⟩ => Fin.here R q (.bl b)
        | int b => cases h; exact PE.mono pe_int fun σ H Q ⟨m, A, aσ, R, S, q⟩ => Fin.here R q (.int b)
        | str b => cases h; exact PE.mono pe_str fun σ H Q ⟨m, A, aσ, R, S, q⟩ => Fin.here R q (.str b)
        | _ => cases h
      | Name x pos =>
        refine truth_of ?_ (fun _ => rfl)
        simp only [trE] at h
        split at h
        · rename_i hx
          obtain ⟨hx1, hx2, hx3⟩ := okName_of hx
          split at h
          · rename_i hv
            cases q : slotOf N x with
            | none => rw [q] at h; cases h
            | some i =>
              rw [q] at h
              cases h
              refine PE.mono (pe_var (by rw [O.N]; exact slotOf_get q) (by rw [O.sc]; exact vis_of hv) hx1 hx2) fun σ H Q ⟨m, A, aσ, R, S, h⟩ => ?_
              have h : Fin X.K m H (match aσ[i]? with | some (some v) => .ok v A | _ => .bad) Q := h
              cases e1 : aσ[i]? with
              | none => rw [e1] at h; exact False.elim h
              | some o =>
                cases o with
                | none => rw [e1] at h; exact False.elim h
                | some v =>
                  rw [e1] at h
                  obtain ⟨y, e2, r⟩ := S.2 i v e1
                  exact ⟨y, e2, Fin.here R h r⟩
          · split at h
            · rename_i hg
              have hg := gl_of O.sc hg
              split at h
              · rename_i hb
                cases q : tyOf x with
                | none => rw [q] at h; cases h
                | some T =>
                  rw [q] at h
                  cases h
                  exact PE.mono (pe_bltn hg (O.blt x hb) (tyOf_boot q) (tyL q) hx3 hx1) fun σ H Q ⟨m, A, aσ, R, S, h⟩ => Fin.here R h (.ty T)
              · split at h
                · rename_i hc
                  cases h
                  obtain ⟨v, u, w, e1, e2, r, rr⟩ := O.con x hc
                  refine PE.mono (pe_glob hg e2 r hx1) fun σ H Q ⟨m, A, aσ, R, S, h⟩ => ?_
                  have h : Fin X.K m H (match c.gl x with | some v => .ok v A | none => .bad) Q := h
                  rw [e1] at h
                  exact Fin.here R h (rr H m)
                · cases h
            · cases h
        · cases h
      | BinOp a o b pos =>
        refine truth_of ?_ (fun _ => rfl)
        simp only [trE] at h
        split at h
        · rename_i o' a' b' h1 h2 h3
          cases h
          have := s_bin (o := o') (pos := pos) (S.E _ _ h2).1 (S.E _ _ h3).1
          rw [opOf_bop h1] at this
          exact this
        · cases h
      | UnaryOp o a pos =>
        cases o with
        | USub =>
          refine truth_of ?_ (fun _ => rfl)
          simp only [trE] at h
          cases q : trE G N n sc a with
          | none => rw [q] at h; cases h
          | some a' => rw [q] at h; cases h; exact s_neg (S.E _ _ q).1
        | Not =>
          simp only [trE] at h
          cases q : trE G N n sc a with
          | none => rw [q] at h; cases h
          | some a' => rw [q] at h; cases h; exact s_not (S.E _ _ q).1 (S.E _ _ q).2
        | _ => simp [trE] at h
      | BoolOp o es pos =>
        cases o with
        | And => simp only [trE] at h; obtain ⟨h1, h2⟩ := S.and_ es e' pos h; exact ⟨h1, h2.pt⟩
        | Or => simp only [trE] at h; obtain ⟨h1, h2⟩ := S.or_ es e' pos h; exact ⟨h1, h2.pt⟩
      | Compare a ops cs pos =>
        cases ops with
        | nil => simp [trE] at h
        | cons o ops =>
          cases cs with
          | nil => cases ops <;> simp [trE] at h
          | cons b cs =>
            cases ops with
            | nil =>
              cases cs with
              | cons _ _ => simp [trE] at h
              | nil =>
                simp only [trE] at h
                split at h
                · rename_i a' b' h1 h2
                  cases h
                  exact s_cmp O.hu (trE_noStar h2) (S.E _ _ h1).1 (S.E _ _ h2).1
                · cases h
            | cons p ops =>
              cases cs with
              | nil => cases ops <;> simp [trE] at h
              | cons d cs =>
                cases ops with
                | cons _ _ => simp [trE] at h
                | nil =>
                  cases cs with
                  | cons _ _ => simp [trE] at h
                  | nil =>
                    simp only [trE] at h
                    split at h
                    · rename_i a' b' d' h1 h2 h3
                      cases h
                      exact s_chain O.hu (trE_noStar h3) (S.E _ _ h1).1 (S.E _ _ h2).1 (S.E _ _ h3).1
                    · cases h
      | IfExp q a b pos =>
        simp only [trE] at h
        split at h
        · rename_i q' a' b' h1 h2 h3
          cases h
          exact ⟨s_ite (S.E _ _ h1).2 (S.E _ _ h2).1 (S.E _ _ h3).1, s_iteT (S.E _ _ h1).2 (S.E _ _ h2).2 (S.E _ _ h3).2⟩
        · cases h
      | Tuple es kk pos =>
        refine truth_of ?_ (fun _ => rfl)
        simp only [trE] at h
        cases q : trEs G N n sc es with
        | none => rw [q] at h; cases h
        | some es' => rw [q] at h; cases h; exact s_tup (S.Es _ _ q)
      | List es pos =>
        refine truth_of ?_ (fun _ => rfl)
        simp only [trE] at h
        cases q : trL G N n sc (.List es pos) with
        | none => rw [q] at h; cases h
        | some l => rw [q] at h; cases h; exact s_new (hLs _ _ q)
      | ListComp a gs scope pos =>
        refine truth_of ?_ (fun _ => rfl)
        simp only [trE] at h
        cases q : trL G N n sc (.ListComp a gs scope pos) with
        | none => rw [q] at h; cases h
        | some l => rw [q] at h; cases h; exact s_new (hLs _ _ q)
      | Subscript a b pos =>
        refine truth_of ?_ (fun _ => rfl)
        have plain : ∀ {a' b'}, trE G N n sc a = some a' → trE G N n sc b = some b' → PE X (.Subscript a b pos) (rdE X.K c (.ix a' b')) := fun h1 h2 => s_ix (trE_noSlice h2) (S.E _ _ h1).1 (S.E _ _ h2).1
        cases b with
        | Slice lo hi st p2 =>
          cases st with
          | some _ =>
            simp only [trE] at h
            split at h
            · rename_i h1 h2; exact absurd h2 (by cases n <;> simp [trE])
            · cases h
          | none =>
            simp only [trE] at h
            split at h
            · rename_i a' lo' hi' h1 h2 h3
              cases h
              exact s_sl (S.E _ _ h1).1 (S.O _ _ h2) (S.O _ _ h3)
            · cases h
        | _ =>
          simp only [trE] at h
          split at h
          · rename_i a' b' h1 h2
            cases h
            exact plain h1 h2
          · cases h
      | Call f es kws pos =>
        cases kws with
        | cons _ _ => cases f <;> simp [trE] at h
        | nil =>
          refine truth_of ?_ (fun _ => rfl)
          cases f with
          | Name x p =>
            simp only [trE] at h
            split at h
            · rename_i hz
              rw [Bool.and_eq_true] at hz
              obtain ⟨hx, hg⟩ := hz
              have hg := gl_of O.sc hg
              split at h
              · rename_i fi hf
                obtain ⟨f, fd, ps, dvs, ds, e1, e2, e3, e4, e5, e6⟩ := O.fn x fi hf
                split at h
                · cases h
                · split at h
                  · cases q : trEs G N n sc es with
                    | none => rw [q] at h; cases h
                    | some es' =>
                      rw [q] at h
                      cases h
                      cases es with
                      | nil =>
                        cases es' with
                        | cons _ _ => have := trEs_len q; cases this
                        | nil => exact s_call0 e6 O.room hg e1 e2 e3 e4 e5 hx
                      | cons a r => exact s_call e6 O.room hg e1 e2 e3 e4 e5 hx (trEs_noStar q) (S.Es _ _ q)
                  · cases h
              · split at h
                · rename_i hb
                  split at h
                  · rename_i a
                    split at h
                    · split at h
                      · rename_i f l h1 h2
                        cases h
                        refine lf_ok O.calm O.blt h1 hb hg hx ?_ (hLs _ _ h2)
                        refine ⟨fun v p z => ?_, fun u v p z => ?_⟩ <;> subst z <;> cases n <;> simp [trL] at h2
                      · cases h
                    · split at h
                      · rename_i f a' h1 h2
                        cases h
                        refine bif_ok O.calm O.blt h1 hb hg hx (fun e he => ?_) (s_cons (trE_noStar h2) (S.E _ _ h2).1 s_nil)
                        have : e = a := by simpa using he
                        subst this; exact trE_noStar h2
                      · cases h
                  · split at h
                    · rename_i f es' h1 h2
                      cases h
                      cases es with
                      | nil => exfalso; revert h1; simp [bifOf, bifA, bifB]
                      | cons a r => exact bif_ok O.calm O.blt h1 hb hg hx (trEs_noStar h2) (S.Es _ _ h2)
                    · cases h
                · split at h
                  · rename_i hz
                    simp only [Bool.and_eq_true, beq_iff_eq] at hz
                    obtain ⟨⟨hG, hn⟩, hl⟩ := hz
                    subst hn
                    cases q : trEs G N n sc es with
                    | none => rw [q] at h; cases h
                    | some es' =>
                      rw [q] at h
                      cases h
                      cases es with
                      | nil => cases hl
                      | cons a r => exact s_gcd hg (O.gcd hG) hx (trEs_noStar q) (S.Es _ _ q)
                  · cases h
            · cases h
          | Attribute o m apos =>
            simp only [trE] at h
            split at h
            · rename_i hz
              simp only [Bool.and_eq_true, decide_eq_true_eq] at hz
              split at h
              · rename_i f o' es' h1 h2 h3
                cases h
                exact mth_ok h1 hz.1.1 hz.1.2 hz.2 (trEs_noStar h3) (S.E _ _ h2).1 (S.Es _ _ h3) (trEs_len h3)
              · cases h
            · cases h
          | _ => simp [trE] at h
      | _ => simp [trE] at h
    case A =>
      intro es e' pos h
      cases es with
      | nil => simp [trAnd] at h
      | cons e es =>
        cases es with
        | nil => simp only [trAnd] at h; exact ⟨pe_one (S.E _ _ h).1, pw_and1 (S.E _ _ h).2⟩
        | cons b es =>
          simp only [trAnd] at h
          split at h
          · rename_i a' r' h1 h2
            cases h
            obtain ⟨g1, g2⟩ := S.and_ _ _ pos h2
            exact s_and (S.E _ _ h1).1 (S.E _ _ h1).2 g1 g2
          · cases h
    case O' =>
      intro es e' pos h
      cases es with
      | nil => simp [trOr] at h
      | cons e es =>
        cases es with
        | nil => simp only [trOr] at h; exact ⟨pe_one (S.E _ _ h).1, pw_or1 (S.E _ _ h).2⟩
        | cons b es =>
          simp only [trOr] at h
          split at h
          · rename_i a' r' h1 h2
            cases h
            obtain ⟨g1, g2⟩ := S.or_ _ _ pos h2
            exact s_or (S.E _ _ h1).1 (S.E _ _ h1).2 g1 g2
          · cases h
    case Es =>
      intro es es' h
      cases es with
      | nil => simp only [trEs] at h; cases h; exact s_nil
      | cons e es =>
        simp only [trEs] at h
        split at h
        · rename_i a' r' h1 h2
          cases h
          exact s_cons (trE_noStar h1) (S.E _ _ h1).1 (S.Es _ _ h2)
        · cases h
    case Op =>
      intro o o' h
      cases o with
      | none => simp only [trO] at h; cases h; exact s_ono
      | some e =>
        simp only [trO] at h
        cases q : trE G N n sc e with
        | none => rw [q] at h; cases h
        | some a' => rw [q] at h; cases h; exact s_osome (S.E _ _ q).1
    case I =>
      intro e tg it h
      have hv : ∀ {e'}, trE G N n sc e = some e' → PI X tg e (rdI X.K c (.v e')) ∧ NoStar e := fun q => ⟨s_iv (S.E _ _ q).1, trE_noStar q⟩
      have hv' : ∀ {it}, (trE G N n sc e).map I.v = some it → PI X tg e (rdI X.K c it) ∧ NoStar e := fun q => by
        cases q1 : trE G N n sc e with
        | none => rw [q1] at q; cases q
        | some e' => rw [q1] at q; cases q; exact hv q1
      have hl : ∀ {it}, (trL G N n sc e).map I.l = some it → PI X tg e (rdI X.K c it) ∧ NoStar e := fun q => by
        cases q1 : trL G N n sc e with
        | none => rw [q1] at q; cases q
        | some e' =>
          rw [q1] at q; cases q
          refine ⟨s_il (S.L _ _ q1), fun v p z => ?_, fun u v p z => ?_⟩ <;> subst z <;> cases n <;> simp [trL] at q1
      cases e with
      | Call f es kws pos =>
        cases f with
        | Name x p =>
          cases kws with
          | cons _ _ => exact hv' h
          | nil =>
            simp only [trI] at h
            split at h
            · rename_i hx
              subst hx
              split at h
              · rename_i hg
                have hg := gl_of O.sc hg
                have hm := O.blt ("range" : Str) (by decide +kernel)
                split at h
                · rename_i a
                  cases q : trE G N n sc a with
                  | none => rw [q] at h; cases h
                  | some a' => rw [q] at h; cases h; exact ⟨s_ir1 hg hm (trE_noStar q) (S.E _ _ q).1, ⟨fun v p z => (by cases z), fun u v p z => (by cases z)⟩⟩
                · rename_i a b
                  split at h
                  · rename_i a' b' h1 h2
                    cases h
                    exact ⟨s_ir2 hg hm (trE_noStar h1) (trE_noStar h2) (S.E _ _ h1).1 (S.E _ _ h2).1, ⟨fun v p z => (by cases z), fun u v p z => (by cases z)⟩⟩
                  · cases h
                · cases h
              · cases h
            · exact hv' h
        | _ => exact hv' h
      | Set _ _ _ => simp [trI] at h
      | List _ _ => exact hl h
      | ListComp _ _ _ _ => exact hl h
      | _ => exact hv' h
    case T =>
      intro fc hfc e t h
      cases e with
      | Name x pos =>
        simp only [trT] at h
        split at h
        · rename_i hz
          rw [Bool.and_eq_true] at hz
          cases q : slotOf N x with
          | none => rw [q] at h; cases h
          | some i =>
            rw [q] at h
            cases h
            refine s_tn O.nd (by rw [O.N]; exact slotOf_get q) (by rw [O.sc]; exact loc_of hz.1) ?_
            rcases Bool.or_eq_true_iff.mp hz.2 with z | z
            · exact .inr (by rw [O.sc]; exact beq_iff_eq.mp z)
            · exact .inl (hfc x z)
        · cases h
      | Tuple es kk pos =>
        simp only [trT] at h
        cases q : trTs G N n fc sc es with
        | none => rw [q] at h; cases h
        | some ts =>
          rw [q] at h
          cases h
          obtain ⟨g1, g2, g3⟩ := S.Ts fc hfc _ _ q
          exact s_ttup O.calm g2 g3 g1
      | Subscript o i pos =>
        cases i with
        | Slice _ _ _ _ => simp [trT] at h
        | _ =>
          simp only [trT] at h
          split at h
          · rename_i o' i' h1 h2
            cases h
            exact s_tsub (fun l u p z => by cases z) (S.E _ _ h1).1 (S.E _ _ h2).1
          · cases h
      | _ => simp [trT] at h
    case Ts =>
      intro fc hfc es ts h
      cases es with
      | nil => simp only [trTs] at h; cases h; exact ⟨s_tnil, fun e he => (by cases he), rfl⟩
      | cons e es =>
        simp only [trTs] at h
        split at h
        · rename_i t ts' h1 h2
          cases h
          obtain ⟨g1, g2, g3⟩ := S.Ts fc hfc _ _ h2
          refine ⟨s_tcons (trT_noStar h1) (S.T fc hfc _ _ h1) g1, fun x hx => ?_, by simp [g3]⟩
          rcases List.mem_cons.mp hx with z | z
          · subst z; exact trT_noStar h1
          · exact g2 x z
        · cases h
end
end Ev


set_option linter.all false
set_option maxRecDepth 100000
set_option maxHeartbeats 4000000
namespace Ev
open PySem PySem.Spec PyProof.Rows L2

/-! ### statements: from the text -/
def isComp : Expr → Bool | .ListComp .. => true | .SetComp .. => true | .DictComp .. => true | _ => false
def isTup : Expr → Bool | .Tuple .. => true | _ => false
/-- name = [..]: stored straight -/
def straight (sc : Scope) (y : Str) (py : Pos) (line : Nat) : Expr → Bool
  | .ListComp _ _ scope p => (sc.names.lookup y == some .local) && (py.line == p.line) && !(scope.names.any fun (n, k) => n == y && (k == .local || k == .cell))
  | _ => false
def ipOf : Operator → Option BOp | .Add => some .add | .Sub => some .sub | _ => none
def isName : Expr → Bool | .Name .. => true | _ => false
def parOf : Expr → Expr → Option (Str × Pos × Str × Pos × Expr × Expr)
  | .Tuple [.Name x px, .Name y py] _ _, .Tuple [a, b] _ _ => some (x, px, y, py, a, b)
  | _, _ => none
theorem parOf_eq {t e : Expr} {x y : Str} {px py : Pos} {a b : Expr} (h : parOf t e = some (x, px, y, py, a, b)) : ∃ kt pt k2 pt2, t = .Tuple [.Name x px, .Name y py] kt pt ∧ e = .Tuple [a, b] k2 pt2 := by
  unfold parOf at h
  split at h
  · cases h; exact ⟨_, _, _, _, rfl, rfl⟩
  · cases h
def parC (sc : Scope) (x : Str) (px : Pos) (y : Str) (py : Pos) (a b : Expr) : Bool :=
  (sc.names.lookup x == some .local) && (sc.names.lookup y == some .local) && (px.line == py.line) && !([a, b].all (foldedForSure 8)) && !([a, b].all (constantsAlone 8))
section
variable (G : GI) (N : List Str) (m : Nat)
def trPar (sc : Scope) (t e : Expr) : Option S :=
  match parOf t e with
  | some (x, px, y, py, a, b) => if parC sc x px y py a b then (match slotOf N x, slotOf N y, trE G N m sc a, trE G N m sc b with
      | some i, some j, some a, some b => if i = j then none else some (.par i j a b) | _, _, _, _ => none) else none
  | none => none
def trAsg (sc : Scope) (t e : Expr) : Option S := match trT G N m (fun _ => true) sc t, trE G N m sc e with | some t, some e => some (.asg t e) | _, _ => none
mutual
def trS : Nat → Scope → Stmt → Option S
  | 0, _, _ => none
  | n + 1, sc, s => match s with
    | .Assign [t] e _ => if isTup t && isTup e then trPar G N m sc t e else if isComp e && !isName t then none else trAsg G N m sc t e
    | .AugAssign (.Name x _) o e _ => if locB sc x then (match slotOf N x, ipOf o, trE G N m sc e with | some i, some o, some e => some (.aug i o e) | _, _, _ => none) else none
    | .AugAssign (.Subscript a i _) o e _ => (match ipOf o, trE G N m sc a, trE G N m sc i, trE G N m sc e with | some o, some a, some i, some e => some (.augs a i o e) | _, _, _, _ => none)
    | .Expr e _ => (match e with | .Constant (.str _) _ _ => some .pass | _ => if isComp e then none else (trE G N m sc e).map .expr)
    | .Return (some e) _ => (trE G N m sc e).map .ret
    | .Return none _ => some (.ret (.lit .non))
    | .If q a b _ => match trE G N m sc q, trSs n sc a, trSs n sc b with | some q, some a, some b => some (.if_ q a b) | _, _, _ => none
    | .For t it b [] _ => match trI G N m sc it t, trT G N m (fun _ => true) sc t, trSs n sc b with | some it, some t, some b => some (.for_ t it b) | _, _, _ => none
    | .While q b [] _ => match trE G N m sc q, trSs n sc b with | some q, some b => some (.while_ q b) | _, _ => none
    | .Pass _ => some .pass
    | .Break _ => some .brk
    | .Continue _ => some .cont
    | _ => none
def trSs : Nat → Scope → List Stmt → Option (List S)
  | 0, _, _ => none
  | _ + 1, _, [] => some []
  | n + 1, sc, s :: r => match trS n sc s, trSs n sc r with | some s, some r => some (s :: r) | _, _ => none
end
end

section
variable {c : Cfg} {G : GI} {N : List Str} {k : Nat} {X : Cx} {sc : Scope}
variable {a b d : Expr} {a' b' d' : E} {pos : Pos} {K : PySem.W.Frag} {σ : L2.St} {H : Hp}
def FS (K : PySem.W.Frag) (m : List Addr) (H : Hp) (o : Out) (D : Ends) : Prop :=
  match o with
  | .next aσ A' => ∀ m' H' σ', Tr m H m' H' → RelH K m' A' H' → RSl K H' m' aσ σ' → D.nx σ' H'
  | .brk aσ A' => ∀ m' H' σ', Tr m H m' H' → RelH K m' A' H' → RSl K H' m' aσ σ' → D.bk σ' H'
  | .cont aσ A' => ∀ m' H' σ', Tr m H m' H' → RelH K m' A' H' → RSl K H' m' aσ σ' → D.ct σ' H'
  | .ret v A' => ∀ m' H' x, Tr m H m' H' → RelH K m' A' H' → RV K H' m' v x → D.rt x H'
  | .bad => False
def rdS (K : PySem.W.Frag) (c : Cfg) (s : S) : TS := fun D σ H => ∃ m A aσ, RelH K m A H ∧ RSl K H m aσ σ ∧ FS K m H (evS c s aσ A) D
def rdSs (K : PySem.W.Frag) (c : Cfg) (s : List S) : TS := fun D σ H => ∃ m A aσ, RelH K m A H ∧ RSl K H m aσ σ ∧ FS K m H (evSs c s aσ A) D
theorem FS.shift {m m1 : List Addr} {H H1 : Hp} {o : Out} {D : Ends} (h : FS K m H o D) (t : Tr m H m1 H1) : FS K m1 H1 o D := by
  cases o with
  | bad => exact h
  | next _ _ => exact fun m' H' s t' => h m' H' s (t.trans t')
  | brk _ _ => exact fun m' H' s t' => h m' H' s (t.trans t')
  | cont _ _ => exact fun m' H' s t' => h m' H' s (t.trans t')
  | ret _ _ => exact fun m' H' s t' => h m' H' s (t.trans t')
theorem FS.out {α : Type} {m : List Addr} {H : Hp} {r : Res α} {f : α → AH → Out} {D : Ends} (h : FS K m H (r.out f) D) : FG K m H r fun a A1 m1 H1 => FS K m1 H1 (f a A1) D := by
  cases r with
  | ok a A => exact fun m' H' t' R' => FS.shift (o := f a A) h t'
  | bad => exact h
def nxt (K : PySem.W.Frag) (f : Sl → AH → Out) (D : Ends) : L2.St → Hp → Prop := fun σ' H' => ∃ m A aσ, RelH K m A H' ∧ RSl K H' m aσ σ' ∧ FS K m H' (f aσ A) D
theorem FS.seq {m : List Addr} {H : Hp} {o : Out} {f : Sl → AH → Out} {D : Ends} (h : FS K m H (o.seq f) D) : FS K m H o { D with nx := nxt K f D } := by
  cases o with
  | bad => exact h
  | next aσ A => exact fun m' H' s t' R S => ⟨m', A, aσ, R, S, FS.shift (o := f aσ A) h t'⟩
  | brk _ _ => exact h
  | cont _ _ => exact h
  | ret _ _ => exact h
theorem FS.turn {m : List Addr} {H : Hp} {o : Out} {f : Sl → AH → Out} {D : Ends} (h : FS K m H (o.turn f) D) : FS K m H o { D with nx := nxt K f D, ct := nxt K f D, bk := D.nx } := by
  cases o with
  | bad => exact h
  | next aσ A => exact fun m' H' s t' R S => ⟨m', A, aσ, R, S, FS.shift (o := f aσ A) h t'⟩
  | cont aσ A => exact fun m' H' s t' R S => ⟨m', A, aσ, R, S, FS.shift (o := f aσ A) h t'⟩
  | brk _ _ => exact h
  | ret _ _ => exact h
theorem FS.now {m : List Addr} {H : Hp} {aσ : Sl} {A : AH} {D : Ends} (h : FS K m H (.next aσ A) D) (R : RelH K m A H) (S : RSl K H m aσ σ) : D.nx σ H := h m H σ Tr.refl R S
theorem PS.mono {X : Cx} {s : Stmt} {t t' : TS} (h : PS X s t) (f : ∀ D σ H, t' D σ H → t D σ H) : PS X s t' := ⟨fun pins s σ H D I q => h.run pins s σ H D I (f D σ H q)⟩
theorem PSs.mono {X : Cx} {s : List Stmt} {t t' : TS} (h : PSs X s t) (f : ∀ D σ H, t' D σ H → t D σ H) : PSs X s t' := ⟨fun pins s σ H D I q => h.run pins s σ H D I (f D σ H q)⟩

theorem s_snil : PSs X [] (rdSs X.K c []) := PSs.mono pss_nil fun D σ H ⟨m, A, aσ, R, S, h⟩ => FS.now h R S
theorem s_scons {s : Stmt} {r : List Stmt} {s' : S} {r' : List S} (h1 : PS X s (rdS X.K c s')) (h2 : PSs X r (rdSs X.K c r')) : PSs X (s :: r) (rdSs X.K c (s' :: r')) :=
  PSs.mono (pss_cons h1 h2) fun D σ H ⟨m, A, aσ, R, S, h⟩ => ⟨m, A, aσ, R, S, FS.seq h⟩
theorem s_asg {t : Expr} {t' : T} (hs : swapsWithSole [t] a pos.line X.env = pure false) (hw : swappedStores [t] a X.env = pure none) (ns : NoStar t) (ht : PG X t (rdTg X.K c t')) (ha : PE X a (rdE X.K c a')) : PS X (.Assign [t] a pos) (rdS X.K c (.asg t' a')) :=
  PS.mono (ps_asg ha ht hs hw (by rw [assignEach_cons ns]; rfl)) fun D σ H ⟨m, A, aσ, R, S, h⟩ => ⟨m, A, aσ, R, S, FG.imp (FS.out h) fun v A1 m1 H1 t1 R1 h1 x rx =>
    ⟨m1, A1, aσ, v, R1, S.mono t1, rx, FG.imp (FS.out h1) fun aσ2 A2 m2 H2 t2 R2 h2 σ2 S2 so => FS.now h2 R2 S2⟩⟩
theorem notComp_sw {e t : Expr} {l : Nat} {env : Env} (h : isComp e = false) : swapsWithSole [t] e l env = pure false := by
  cases e <;> first | rfl | cases h
theorem notTup_ss {e t : Expr} {env : Env} (h : isTup e = false) : swappedStores [t] e env = pure none := by
  unfold swappedStores
  cases e <;> first | (simp [isTup] at h; done) | (cases t <;> rfl)
theorem notTup_ss2 {e t : Expr} {env : Env} (h : isTup t = false) (h2 : ∀ l p, t ≠ .List l p) : swappedStores [t] e env = pure none := by
  unfold swappedStores
  cases t <;> first | (simp [isTup] at h; done) | exact absurd rfl (h2 _ _) | rfl
theorem s_aug {x : Str} {i : Nat} {o : BOp} {p : Pos} (ho : o = .add ∨ o = .sub) (hN : X.N.Nodup) (hi : X.N[i]? = some x) (hx : L2.Loc X.env.scope x) (hf : X.fn x = true) (ha : PE X a (rdE X.K c a')) : PS X (.AugAssign (.Name x p) (opOf o) a pos) (rdS X.K c (.aug i o a')) := by
  have hp : PIp X (opOf o) (fun x y H Q => ∃ m A ax ay, RelH X.K m A H ∧ RV X.K H m ax x ∧ RV X.K H m ay y ∧ Fin X.K m H (aAug o ax ay A) Q) := by
    rintro pins s σ H x y v u Q I rx ry ⟨m, A, ax, ay, R, hx, hy, fin⟩
    rcases ho with rfl | rfl
    · cases hx with
      | int i =>
        cases hy with
        | int j => exact ip_add pins s σ H _ _ v u Q I rx ry ⟨i, j, rfl, rfl, Fin.here R fin (.int _)⟩
        | _ => exact False.elim fin
      | str i =>
        cases hy with
        | str j =>
          simp only [aAug] at fin
          split at fin
          · rename_i hz; exact iop_add_str pins s σ H _ _ v u Q I rx ry ⟨i, j, rfl, rfl, hz, Fin.here R fin (.str _)⟩
          · exact False.elim fin
        | _ => exact False.elim fin
      | _ => exact False.elim fin
    · cases hx with
      | int i =>
        cases hy with
        | int j => exact ip_sub pins s σ H _ _ v u Q I rx ry ⟨i, j, rfl, rfl, Fin.here R fin (.int _)⟩
        | _ => exact False.elim fin
      | _ => exact False.elim fin
  refine PS.mono (ps_aug hN hi hx ha hp (.inl hf)) fun D σ H ⟨m, A, aσ, R, S, h⟩ => ?_
  simp only [evS] at h
  cases e1 : aσ[i]? with
  | none => rw [e1] at h; exact False.elim h
  | some ov =>
    cases ov with
    | none => rw [e1] at h; exact False.elim h
    | some v =>
      rw [e1] at h
      obtain ⟨y, e2, r⟩ := S.2 i v e1
      refine ⟨y, e2, m, A, aσ, R, S, FG.imp (FS.out h) fun w A1 m1 H1 t1 R1 h1 z rz => ⟨m1, A1, v, w, R1, r.mono t1, rz, FG.imp (FS.out h1) fun u A2 m2 H2 t2 R2 h2 q rq => ?_⟩⟩
      exact FS.now h2 R2 (((S.mono t1).mono t2).set i rq)
theorem get_A : PGet X (fun o i H Q => ∃ m A ao ai v, RelH X.K m A H ∧ RV X.K H m ao o ∧ RV X.K H m ai i ∧ mthTy .append ao A = true ∧ aIx ao ai A = some v ∧ ∀ w, RV X.K H m v w → Q w H) := by
  rintro pins s σ H o i ov iv Q I ro ri ⟨m, A, ao, ai, v, R, ho, hi, ht, e, q⟩
  unfold mthTy at ht
  cases ho with
  | @ref n a hm =>
    simp only at ht
    split at ht
    · rename_i ys hA
      cases hi with
      | int k =>
        obtain ⟨zs, hH, r⟩ := R.of hm hA
        have e : L2.atI ys k = some v := by simpa [aIx, seqOf, hA] using e
        obtain ⟨w, e2, r2⟩ := r.atI e
        obtain rfl : ov = Value.ref a := ro
        obtain ⟨t, rfl⟩ := (show ∃ t, iv = Value.int k t from ri)
        obtain ⟨its, rv, pl, hz⟩ := I.list (SqL.of hH)
        obtain ⟨j, h1, h2, h3, h4, h5⟩ := atI_get e2
        obtain ⟨u, eu, ru⟩ := rv.get h2
        have hl := rv.length
        have hn := line63
        have fin : EP X pins σ Q u s := ⟨w, H, I, ru, q w r2⟩
        by_cases h0 : 0 ≤ k
        · have hj : k.toNat = j := by
            rw [seqIndex_of h0 h5] at h1
            exact Option.some.inj h1
          exact wpAny_getItem_list pl.isList h0 (by omega) (by rw [hj]; simpa using eu) fin
        · have hj : (k + (its.toArray.size : Int)).toNat = j := by
            rw [seqIndex_neg (by omega) h4] at h1
            rw [List.size_toArray, ← hl]
            exact Option.some.inj h1
          exact wpAny_getItem_list_neg pl.isList (by omega) (by rw [List.size_toArray] <;> omega) (by omega) (by rw [hj]; simpa using eu) fin
      | _ => simp [aIx] at e
    · cases ht
  | _ => cases ht
theorem s_augs {o : BOp} {p : Pos} (ho : o = .add ∨ o = .sub) (nsl : ∀ l u s p, b ≠ .Slice l u s p) (ha : PE X a (rdE X.K c a')) (hb : PE X b (rdE X.K c b')) (hd : PE X d (rdE X.K c d')) : PS X (.AugAssign (.Subscript a b p) (opOf o) d pos) (rdS X.K c (.augs a' b' o d')) := by
  have hp : PIp X (opOf o) (fun x y H Q => ∃ m A ax ay, RelH X.K m A H ∧ RV X.K H m ax x ∧ RV X.K H m ay y ∧ Fin X.K m H (aAug o ax ay A) Q) := by
    rintro pins s σ H x y v u Q I rx ry ⟨m, A, ax, ay, R, hx, hy, fin⟩
    rcases ho with rfl | rfl
    · cases hx with
      | int i =>
        cases hy with
        | int j => exact ip_add pins s σ H _ _ v u Q I rx ry ⟨i, j, rfl, rfl, Fin.here R fin (.int _)⟩
        | _ => exact False.elim fin
      | str i =>
        cases hy with
        | str j =>
          simp only [aAug] at fin
          split at fin
          · rename_i hz; exact iop_add_str pins s σ H _ _ v u Q I rx ry ⟨i, j, rfl, rfl, hz, Fin.here R fin (.str _)⟩
          · exact False.elim fin
        | _ => exact False.elim fin
      | _ => exact False.elim fin
    · cases hx with
      | int i =>
        cases hy with
        | int j => exact ip_sub pins s σ H _ _ v u Q I rx ry ⟨i, j, rfl, rfl, Fin.here R fin (.int _)⟩
        | _ => exact False.elim fin
      | _ => exact False.elim fin
  refine PS.mono (ps_augS ha hb get_A hd hp set_A (by intros; cases b <;> first | rfl | exact absurd rfl (nsl _ _ _ _))) fun D σ H ⟨m, A, aσ, R, S, h⟩ => ?_
  refine ⟨m, A, aσ, R, S, FG.imp (FS.out h) fun ov A1 m1 H1 t1 R1 h1 x rx => ⟨m1, A1, aσ, R1, S.mono t1, FG.imp (FS.out h1) fun iv A2 m2 H2 t2 R2 h2 y ry => ?_⟩⟩
  split at h2
  · rename_i hty
    cases e : aIx ov iv A2 with
    | none => rw [e] at h2; exact False.elim h2
    | some v =>
      rw [e] at h2
      refine ⟨m2, A2, ov, iv, v, R2, rx.mono t2, ry, hty, e, fun w rw' => ⟨m2, A2, aσ, R2, (S.mono t1).mono t2, FG.imp (FS.out h2) fun u A3 m3 H3 t3 R3 h3 z rz => ⟨m3, A3, v, u, R3, rw'.mono t3, rz, FG.imp (FS.out h3) fun q A4 m4 H4 t4 R4 h4 r rr => ?_⟩⟩⟩
      cases e2 : aSet ov iv q A4 with
      | none => rw [e2] at h4; exact False.elim h4
      | some A5 =>
        rw [e2] at h4
        exact ⟨m4, A4, ov, iv, q, A5, R4, ((rx.mono t2).mono t3).mono t4, (ry.mono t3).mono t4, rr, e2, fun H5 t5 R5 => h4 m4 H5 σ t5 R5 (((((S.mono t1).mono t2).mono t3).mono t4).mono t5)⟩
  · exact False.elim h2
theorem s_expr (hs : isComp a = false) (ha : PE X a (rdE X.K c a')) : PS X (.Expr a pos) (rdS X.K c (.expr a')) :=
  PS.mono (ps_expr ha (by cases a <;> first | rfl | cases hs)) fun D σ H ⟨m, A, aσ, R, S, h⟩ => ⟨m, A, aσ, R, S, FG.imp (FS.out h) fun v A1 m1 H1 t1 R1 h1 x rx => FS.now h1 R1 (S.mono t1)⟩
theorem s_ret (ha : PE X a (rdE X.K c a')) : PS X (.Return (some a) pos) (rdS X.K c (.ret a')) :=
  PS.mono (ps_ret ha) fun D σ H ⟨m, A, aσ, R, S, h⟩ => ⟨m, A, aσ, R, S, FG.imp (FS.out h) fun v A1 m1 H1 t1 R1 h1 x rx => h1 m1 H1 x Tr.refl R1 rx⟩
theorem s_retN : PS X (.Return none pos) (rdS X.K c (.ret (.lit .non))) :=
  PS.mono ps_retN fun D σ H ⟨m, A, aσ, R, S, h⟩ => h m H .non Tr.refl R .non
theorem s_if {p q : List Stmt} {p' q' : List S} (ha : PT X a (rdT X.K c a')) (hp : PSs X p (rdSs X.K c p')) (hq : PSs X q (rdSs X.K c q')) : PS X (.If a p q pos) (rdS X.K c (.if_ a' p' q')) :=
  PS.mono (ps_if ha hp hq) fun D σ H ⟨m, A, aσ, R, S, h⟩ => ⟨m, A, aσ, R, S, FG.imp (FS.out h) fun kk A1 m1 H1 t1 R1 h1 => by
    cases kk with
    | true => rw [if_pos rfl] at h1 ⊢; exact ⟨m1, A1, aσ, R1, S.mono t1, h1⟩
    | false => rw [if_neg Bool.false_ne_true] at h1 ⊢; exact ⟨m1, A1, aσ, R1, S.mono t1, h1⟩⟩
theorem s_pass : PS X (.Pass pos) (rdS X.K c .pass) := PS.mono ps_pass fun D σ H ⟨m, A, aσ, R, S, h⟩ => FS.now h R S
theorem s_doc {x j p1} : PS X (.Expr (.Constant (.str x) j p1) pos) (rdS X.K c .pass) := PS.mono ps_doc fun D σ H ⟨m, A, aσ, R, S, h⟩ => FS.now h R S
theorem s_brk : PS X (.Break pos) (rdS X.K c .brk) := PS.mono ps_break fun D σ H ⟨m, A, aσ, R, S, h⟩ => h m H σ Tr.refl R S
theorem s_cont : PS X (.Continue pos) (rdS X.K c .cont) := PS.mono ps_continue fun D σ H ⟨m, A, aσ, R, S, h⟩ => h m H σ Tr.refl R S
theorem s_while {p : List Stmt} {p' : List S} (hx : PassesOwn (model X.prog X.w) X.A X.env X.xe) (ha : PT X a (rdT X.K c a')) (hp : PSs X p (rdSs X.K c p')) : PS X (.While a p [] pos) (rdS X.K c (.while_ a' p')) := by
  refine PS.mono (ps_while hx ha hp) fun D σ H ⟨m, A, aσ, R, S, h⟩ => ?_
  refine ⟨fun n => nxt X.K (whGo (fun σ A => evT c a' σ A) (fun σ A => evSs c p' σ A) n) D, ⟨c.fuel, m, A, aσ, R, S, h⟩, fun n σ H ⟨m, A, aσ, R, S, h⟩ => ?_⟩
  cases n with
  | zero => exact False.elim h
  | succ n =>
    simp only [whGo] at h
    refine ⟨m, A, aσ, R, S, FG.imp (FS.out h) fun kk A1 m1 H1 t1 R1 h1 => ?_⟩
    cases kk with
    | true =>
      rw [if_pos rfl] at h1 ⊢
      exact ⟨_, fun σ' H' q => ⟨n, Nat.lt_succ_self n, q⟩, m1, A1, aσ, R1, S.mono t1, FS.turn h1⟩
    | false => rw [if_neg Bool.false_ne_true] at h1 ⊢; exact FS.now h1 R1 (S.mono t1)
theorem s_for {tg iter : Expr} {p : List Stmt} {p' : List S} {t : T} {it : I} (hx : PassesOwn (model X.prog X.w) X.A X.env X.xe) (hc : X.calm = true) (ns : NoStar iter) (hi : PI X tg iter (rdI X.K c it)) (ht : PG X tg (rdTg X.K c t)) (hp : PSs X p (rdSs X.K c p')) :
    PS X (.For tg iter p [] pos) (rdS X.K c (.for_ t it p')) := by
  refine PS.mono (ps_for hx hc hi ht hp (folded_of ns)) fun D σ H ⟨m, A, aσ, R, S, h⟩ => ⟨m, A, aσ, R, S, FG.imp (FS.out h) fun itm A1 m1 H1 t1 R1 h1 J hJ => ?_⟩
  refine ⟨fun i mm σ H => i ≤ itm.items.length ∧ mm = itm.items.length - i ∧ ∃ m' A' aσ', Tr m1 H1 m' H ∧ RelH X.K m' A' H ∧ RSl X.K H m' aσ' σ ∧ FS X.K m' H (forGo itm.chk (fun x σ A => evTg c t x σ A) (fun σ A => evSs c p' σ A) (itm.items.drop i) aσ' A') D,
    ⟨_, Nat.zero_le _, rfl, m1, A1, aσ, Tr.refl, R1, S.mono t1, by rw [List.drop_zero]; exact h1⟩, ?_⟩
  rintro i mm σ H ⟨hi, rfl, m', A', aσ', tr, R', S', g⟩
  by_cases hlt : i < itm.items.length
  · rw [List.drop_eq_getElem_cons hlt] at g
    simp only [forGo] at g
    split at g
    · rename_i hck
      obtain ⟨hgo, hy⟩ := (hJ i m' A' H tr R' hck).1 _ (List.getElem?_eq_getElem hlt)
      refine .inr ⟨hgo, fun σ' H' => ∃ m'' A'' aσ'', Tr m1 H1 m'' H' ∧ RelH X.K m'' A'' H' ∧ RSl X.K H' m'' aσ'' σ' ∧ FS X.K m'' H' (forGo itm.chk (fun x σ A => evTg c t x σ A) (fun σ A => evSs c p' σ A) (itm.items.drop (i + 1)) aσ'' A'') D,
        fun σ' H' q => ⟨itm.items.length - (i + 1), by omega, hlt, rfl, q⟩, fun x H2 yl => ?_⟩
      obtain ⟨ty, R2, rx⟩ := hy x H2 yl
      refine ⟨m', A', aσ', _, R2, S'.mono ty, rx, FG.imp (FS.out (FS.shift g ty)) fun aσ3 A3 m3 H3 t3 R3 h3 σ3 S3 so => ?_⟩
      have trC := (tr.trans ty).trans t3
      refine ⟨m3, A3, aσ3, R3, S3, ?_⟩
      cases e : evSs c p' aσ3 A3 with
      | bad => rw [e] at h3; exact h3
      | next aσ4 A4 => rw [e] at h3; exact fun m4 H4 σ4 t4 R4 S4 => ⟨m4, A4, aσ4, trC.trans t4, R4, S4, FS.shift (o := forGo _ _ _ _ aσ4 A4) h3 t4⟩
      | cont aσ4 A4 => rw [e] at h3; exact fun m4 H4 σ4 t4 R4 S4 => ⟨m4, A4, aσ4, trC.trans t4, R4, S4, FS.shift (o := forGo _ _ _ _ aσ4 A4) h3 t4⟩
      | brk aσ4 A4 => rw [e] at h3; exact h3
      | ret v A4 => rw [e] at h3; exact h3
    · exact False.elim g
  · have e : i = itm.items.length := by omega
    subst e
    rw [List.drop_length] at g
    simp only [forGo] at g
    split at g
    · rename_i hck
      exact .inl ⟨(hJ _ m' A' H tr R' hck).2 (Nat.le_refl _), FS.now g R' S'⟩
    · exact False.elim g

theorem rd_newL {l : L} {Q : VK} (h : rdE K c (.new l) σ H Q) : rdL K c l σ H Q := by
  obtain ⟨m, A, aσ, R, S, h⟩ := h
  refine ⟨m, A, aσ, R, S, ?_⟩
  simp only [evE] at h
  cases e : evL c l aσ A with
  | bad => rw [e] at h; exact False.elim h
  | ok vs A1 =>
    rw [e] at h
    intro m1 H1 t1 R1 D ys hD nD nH ry
    have st : Stay K m1 H1 (m1 ++ [D]) H1 := ⟨fun i c e => by rw [List.getElem?_append_left (List.getElem?_eq_some_iff.mp e).1]; exact e, fun _ _ e => e, fun _ _ e => e⟩
    refine h (m1 ++ [D]) H1 (t1.adopt nH) (R1.adopt nD ⟨ys, hD, RVs.mono0 st ry⟩) _ (.ref ?_)
    rw [← R1.len, List.getElem?_append_right (Nat.le_refl _)]; simp
theorem s_par {x y : Str} {i j : Nat} {px py pt : Pos} {kt k2 pt2} (hc : X.calm = true) (hN : X.N.Nodup) (hi : X.N[i]? = some x) (hj : X.N[j]? = some y) (hij : i ≠ j) (hx : X.env.scope.names.lookup x = some .local) (hy : X.env.scope.names.lookup y = some .local)
    (ns : NoStar a) (nb : NoStar b) (hw : swappedStores [.Tuple [.Name x px, .Name y py] kt pt] (.Tuple [a, b] k2 pt2) X.env = pure (some [x, y])) (ha : PE X a (rdE X.K c a')) (hb : PE X b (rdE X.K c b')) :
    PS X (.Assign [.Tuple [.Name x px, .Name y py] kt pt] (.Tuple [a, b] k2 pt2) pos) (rdS X.K c (.par i j a' b')) :=
  PS.mono (ps_par hc hN hi hj hij hx hy (pa_cons ha (pa_cons hb pa_nil (starEach_cons nb)) (starEach_cons ns)) hw) fun D σ H ⟨m, A, aσ, R, S, h⟩ =>
    ⟨m, A, aσ, R, S, FG.imp (FS.out h) fun v A1 m1 H1 t1 R1 h1 u ru => ⟨m1, A1, aσ, R1, S.mono t1, FG.imp (FS.out h1) fun w A2 m2 H2 t2 R2 h2 z rz =>
      ⟨u, z, rfl, FS.now h2 R2 ((((S.mono t1).mono t2).set i (ru.mono t2)).set j rz)⟩⟩⟩
theorem swapped_of {x y : Str} {px py pt : Pos} {kt k2 pt2} {env : Env} (hk : env.scope.kind = .function) (hx : env.scope.names.lookup x = some .local) (hy : env.scope.names.lookup y = some .local) (hl : (px.line == py.line) = true) (hxy : x ≠ y)
    (ns : NoStar a) (nb : NoStar b) (h1 : ([a, b].all (foldedForSure 8)) = false) (h2 : ([a, b].all (constantsAlone 8)) = false) :
    swappedStores [.Tuple [.Name x px, .Name y py] kt pt] (.Tuple [a, b] k2 pt2) env = pure (some [x, y]) := by
  have kx : env.kindOf x = some .local := hx
  have ky : env.kindOf y = some .local := hy
  have hb : env.blockKind = .function := by unfold Env.blockKind; rw [hk]; rfl
  have hl2 : py.line = px.line := (beq_iff_eq.mp hl).symm
  unfold swappedStores
  have hyx : (y == x) = false := beq_eq_false_iff_ne.mpr (Ne.symm hxy)
  simp [hb, kx, ky, hl2, h1, h2, Expr.pos, List.eraseDups_cons, hyx]
  rintro (h | h)
  · split at h
    · exact absurd rfl (ns.1 _ _)
    · cases h
  · split at h
    · exact absurd rfl (nb.1 _ _)
    · cases h
theorem swaps_comp {elt : Expr} {gs : List Comprehension} {scope : Scope} {p py : Pos} {y : Str} {l : Nat} {env : Env} (hk : env.scope.kind = .function) :
    swapsWith (.ListComp elt gs scope p) (some (.Name y py)) l env = pure (straight env.scope y py l (.ListComp elt gs scope p)) := by
  have hb : env.blockKind = .function := by unfold Env.blockKind; rw [hk]; rfl
  unfold swapsWith straight
  simp [hb, Env.kindOf, Expr.pos]

/-! ### statements: all -/
theorem trT_notList {n : Nat} {fc : Str → Bool} {e : Expr} {t : T} (h : trT G N n fc sc e = some t) : ∀ l p, e ≠ .List l p := fun l p z => by
  subst z
  cases n with
  | zero => simp [trT] at h
  | succ n => simp [trT] at h
theorem ipOf_ok {o : Operator} {b : BOp} (h : ipOf o = some b) : opOf b = o ∧ (b = .add ∨ b = .sub) := by cases o <;> simp [ipOf] at h <;> subst h <;> simp [opOf]
theorem noStarB {e : Expr} {n : Nat} {e' : E} (h : trE G N n sc e = some e') : NoStar e := trE_noStar h
structure StOk (c : Cfg) (G : GI) (N : List Str) (k : Nat) (X : Cx) (sc : Scope) : Prop extends CxOk c G N k X sc where
  kind : X.env.scope.kind = .function
  fnAll : ∀ x, X.fn x = true
  pas : PassesOwn (model X.prog X.w) X.A X.env X.xe
theorem snd_S (O : StOk c G N k X sc) (m : Nat) : ∀ n, (∀ s s', trS G N m n sc s = some s' → PS X s (rdS X.K c s')) ∧ (∀ ss ss', trSs G N m n sc ss = some ss' → PSs X ss (rdSs X.K c ss')) := by
  have Z := snd (c := c) (G := G) (N := N) (k := k) m X sc O.toCxOk
  have fa : ∀ x, (fun _ : Str => true) x = true → X.fn x = true := fun x _ => O.fnAll x
  intro n
  induction n with
  | zero => exact ⟨fun s s' h => by simp [trS] at h, fun s s' h => by simp [trSs] at h⟩
  | succ n ih =>
    refine ⟨fun s s' h => ?_, fun ss ss' h => ?_⟩
    · cases s with
      | Assign ts e pos =>
        cases ts with
        | nil => simp [trS] at h
        | cons t r =>
          cases r with
          | cons _ _ => simp [trS] at h
          | nil =>
            simp only [trS] at h
            split at h
            · rename_i hz
              unfold trPar at h
              split at h
              · rename_i x px y py a b hp
                obtain ⟨kt, pt, k2, pt2, rfl, rfl⟩ := parOf_eq hp
                split at h
                · rename_i hq
                  unfold parC at hq
                  simp only [Bool.and_eq_true, beq_iff_eq, Bool.not_eq_true'] at hq
                  obtain ⟨⟨⟨⟨q1, q2⟩, q3⟩, q6⟩, q7⟩ := hq
                  split at h
                  · rename_i i j a' b' h1 h2 h3 h4
                    split at h
                    · cases h
                    · rename_i hij
                      cases h
                      have hx : X.env.scope.names.lookup x = some .local := by rw [O.sc]; exact q1
                      have hy : X.env.scope.names.lookup y = some .local := by rw [O.sc]; exact q2
                      have hi : X.N[i]? = some x := by rw [O.N]; exact slotOf_get h1
                      have hj : X.N[j]? = some y := by rw [O.N]; exact slotOf_get h2
                      refine s_par O.calm O.nd hi hj hij hx hy (trE_noStar h3) (trE_noStar h4) (swapped_of O.kind hx hy (beq_iff_eq.mpr q3) (fun z => hij ?_) (trE_noStar h3) (trE_noStar h4) q6 q7) (Z.E _ _ h3).1 (Z.E _ _ h4).1
                      subst z
                      exact nodup_ix O.nd hi hj
                  · cases h
                · cases h
              · cases h
            · rename_i hz
              split at h
              · cases h
              · rename_i hcomp
                unfold trAsg at h
                split at h
                · rename_i t' e' h1 h2
                  cases h
                  have pt := Z.T _ fa _ _ h1
                  have pe := (Z.E _ _ h2).1
                  have hw : swappedStores [t] e X.env = pure none := by
                    simp only [Bool.and_eq_true, not_and, Bool.not_eq_true] at hz
                    by_cases ht : isTup t = true
                    · exact notTup_ss (hz ht)
                    · exact notTup_ss2 (by simpa using ht) (trT_notList h1)
                  by_cases hc : isComp e = true
                  · -- a comprehension to a name
                    have hn : isName t = true := by
                      rw [hc] at hcomp
                      simpa using hcomp
                    cases t with
                    | Name y py =>
                      cases e with
                      | ListComp elt gs scope p =>
                        have hk : X.env.scope.kind = .function := O.kind
                        by_cases hst : straight X.env.scope y py pos.line (.ListComp elt gs scope p) = true
                        · have hyl : X.env.scope.names.lookup y = some .local := by
                            unfold straight at hst
                            simp only [Bool.and_eq_true, beq_iff_eq] at hst
                            exact hst.1.1
                          cases m with
                          | zero => simp [trE] at h2
                          | succ m' =>
                            simp only [trE] at h2
                            cases q : trL G N m' sc (.ListComp elt gs scope p) with
                            | none => rw [q] at h2; cases h2
                            | some l =>
                              rw [q] at h2
                              cases h2
                              obtain ⟨tg, iter, ifs, own, wi, g, tt, te, e1, pi, ok, pg, pts, pe', fo, rd⟩ := (snd (c := c) (G := G) (N := N) (k := k) m' X sc O.toCxOk).Lc _ _ _ _ _ q
                              subst e1
                              simp only [trT] at h1
                              split at h1
                              · cases q2 : slotOf N y with
                                | none => rw [q2] at h1; cases h1
                                | some i =>
                                  rw [q2] at h1
                                  cases h1
                                  refine PS.mono (ps_setLc (i := i) O.calm O.nd (by rw [O.N]; exact slotOf_get q2) hyl (by rw [swaps_comp hk, hst]) pi ok pg pts pe' fo) fun D σ H ⟨m, A, aσ, R, S, h⟩ => ?_
                                  refine rd _ _ _ (rd_newL ⟨m, A, aσ, R, S, FG.imp (FS.out h) fun v A1 m1 H1 t1 R1 h1 x rx => ?_⟩)
                                  exact FS.now h1 R1 ((S.mono t1).set i rx)
                              · cases h1
                        · refine s_asg ?_ hw (trT_noStar h1) pt pe
                          simp only [swapsWithSole]
                          rw [swaps_comp hk]
                          simp only [Bool.not_eq_true] at hst
                          rw [hst]
                      | SetComp _ _ _ _ => exfalso; cases m <;> simp [trE] at h2
                      | DictComp _ _ _ _ _ => exfalso; cases m <;> simp [trE] at h2
                      | _ => simp [isComp] at hc
                    | _ => simp [isName] at hn
                  · exact s_asg (notComp_sw (by simpa using hc)) hw (trT_noStar h1) pt pe
                · cases h
      | AugAssign t o e pos =>
        cases t with
        | Name x p =>
          simp only [trS] at h
          split at h
          · rename_i hl
            split at h
            · rename_i i o' e' h1 h2 h3
              cases h
              obtain ⟨e1, e2⟩ := ipOf_ok h2
              rw [← e1]
              exact s_aug e2 O.nd (by rw [O.N]; exact slotOf_get h1) (by rw [O.sc]; exact loc_of hl) (O.fnAll x) (Z.E _ _ h3).1
            · cases h
          · cases h
        | Subscript a i p =>
          simp only [trS] at h
          split at h
          · rename_i o' a' i' e' h1 h2 h3 h4
            cases h
            obtain ⟨e1, e2⟩ := ipOf_ok h1
            rw [← e1]
            exact s_augs e2 (trE_notSlice h3) (Z.E _ _ h2).1 (Z.E _ _ h3).1 (Z.E _ _ h4).1
          · cases h
        | _ => simp [trS] at h
      | Expr e pos =>
        simp only [trS] at h
        split at h
        · cases h; exact s_doc
        · split at h
          · cases h
          · rename_i hc
            cases q : trE G N m sc e with
            | none => rw [q] at h; cases h
            | some e' => rw [q] at h; cases h; exact s_expr (by simpa using hc) (Z.E _ _ q).1
      | Return e pos =>
        cases e with
        | none => simp only [trS] at h; cases h; exact s_retN
        | some e =>
          simp only [trS] at h
          cases q : trE G N m sc e with
          | none => rw [q] at h; cases h
          | some e' => rw [q] at h; cases h; exact s_ret (Z.E _ _ q).1
      | If q a b pos =>
        simp only [trS] at h
        split at h
        · rename_i q' a' b' h1 h2 h3
          cases h
          exact s_if (Z.E _ _ h1).2 (ih.2 _ _ h2) (ih.2 _ _ h3)
        · cases h
      | For t it b e pos =>
        cases e with
        | cons _ _ => simp [trS] at h
        | nil =>
          simp only [trS] at h
          split at h
          · rename_i it' t' b' h1 h2 h3
            cases h
            obtain ⟨g1, g2⟩ := Z.I _ _ _ h1
            exact s_for O.pas O.calm g2 g1 (Z.T _ fa _ _ h2) (ih.2 _ _ h3)
          · cases h
      | While q b e pos =>
        cases e with
        | cons _ _ => simp [trS] at h
        | nil =>
          simp only [trS] at h
          split at h
          · rename_i q' b' h1 h2
            cases h
            exact s_while O.pas (Z.E _ _ h1).2 (ih.2 _ _ h2)
          · cases h
      | Pass pos => simp only [trS] at h; cases h; exact s_pass
      | Break pos => simp only [trS] at h; cases h; exact s_brk
      | Continue pos => simp only [trS] at h; cases h; exact s_cont
      | _ => simp [trS] at h
    · cases ss with
      | nil => simp only [trSs] at h; cases h; exact s_snil
      | cons s r =>
        simp only [trSs] at h
        split at h
        · rename_i s' r' h1 h2
          cases h
          exact s_scons (ih.1 _ _ h1) (ih.2 _ _ h2)
        · cases h
end
end Ev


set_option linter.all false
set_option maxRecDepth 100000
set_option maxHeartbeats 1000000
namespace Ev
open PySem PySem.Spec PyProof.Rows L2

/-! ### the defs of a text, all together -/
structure Ent where
  x : Str
  N : List Str
  ps : List Str
  dflt : List AV
  fu : Nat
  gu : Nat
  body : List S
def getF (T : List Ent) (x : Str) : Option Ent := T.find? fun e => e.x == x
def progOf (T : List Ent) : Str → Option FnD := fun x => (getF T x).map fun e => ⟨e.ps.length, e.N.length, e.body⟩
def giOf (T : List Ent) (gl : Str → Option AV) (gcd : Bool) : GI := ⟨fun x => (getF T x).map fun e => ⟨e.ps.length, e.dflt⟩, gl, gcd⟩
structure EntFn (K : PySem.W.Frag) (G : GI) (e : Ent) (f : Addr) (fd : FuncData) : Prop where
  ex : ∃ st, Fun K e.x e.x st f fd ∧ FnScope e.N e.ps (defScope st) ∧ trSs G e.N e.fu e.gu (defScope st) (defBody st) = some e.body
  kp : PySem.W.keepIn K (.ref f) = true
structure EntOk (K : PySem.W.Frag) (mg : Str → Option Value) (G : GI) (e : Ent) : Prop where
  ex : ∃ f fd ds dvs, EntFn K G e f fd ∧ mg e.x = some (.ref f) ∧ Binds K fd e.ps ds ∧ Vals dvs ds ∧ ∀ H m, RVs K H m e.dflt dvs
theorem getF_x {T : List Ent} {x : Str} {e : Ent} (h : getF T x = some e) : e ∈ T ∧ e.x = x := by
  unfold getF at h
  exact ⟨List.mem_of_find?_eq_some h, by simpa using List.find?_some h⟩
section
variable {T : List Ent} {gl : Str → Option AV} {gcd : Bool} {fuel : Nat} {P : Program} {w : World} {K : PySem.W.Frag} {mg : Str → Option Value} {base : Heap}
theorem start_rsl {H : Hp} {m : List Addr} {N ps : List Str} {axs : List AV} {vs : List V} (r : RVs K H m axs vs) (hl : axs.length = ps.length) : RSl K H m (axs.map some ++ List.replicate (N.length - ps.length) none) (L2.start N vs) := by
  have h2 := r.length
  unfold L2.start
  rw [← h2, hl]
  refine ⟨by simp [h2], fun i v e => ?_⟩
  by_cases hi : i < axs.length
  · rw [List.getElem?_append_left (by simpa using hi), List.getElem?_map] at e
    obtain ⟨a, h3, h4⟩ := Option.map_eq_some_iff.mp e
    cases h4
    obtain ⟨y, h5, h6⟩ := r.get h3
    exact ⟨y, by rw [List.getElem?_append_left (by rw [List.length_map]; omega), List.getElem?_map, h5]; rfl, h6⟩
  · rw [List.getElem?_append_right (by simpa using hi), List.getElem?_replicate] at e
    split at e <;> cases e
theorem fn_all (hT : ∀ e ∈ T, EntOk K mg (giOf T gl gcd) e) (blt : ∀ x, isBlt x = true → mg x = none) (hg : gcd = true → mg "gcd" = some (.builtin "math.gcd"))
    (hc : ∀ x v, gl x = some v → ∃ u w, mg x = some u ∧ RelV w u ∧ ∀ H m, RV K H m v w) :
    ∀ k x e, getF T x = some e → ∀ f fd, EntFn K (giOf T gl gcd) e f fd → FnOk P w K mg base CX0 k f fd e.ps (spEv K ⟨run (progOf T) gl fuel k, gl, fuel⟩ x) := by
  intro k
  induction k with
  | zero =>
    intro x e he f fd F
    exact ⟨fun vs H Q E ⟨m, A, axs, R, r, h⟩ => False.elim h, fun A outer s H args us vs Q E _ _ _ _ ⟨m, A', axs, R, r, h⟩ => False.elim h⟩
  | succ k ih =>
    intro x e he f fd ⟨⟨st, F, S, ht⟩, kp⟩
    have key : ∀ axs A, run (progOf T) gl fuel (k + 1) x axs A = if axs.length = e.ps.length then (match evSs ⟨run (progOf T) gl fuel k, gl, fuel⟩ e.body (axs.map some ++ List.replicate (e.N.length - e.ps.length) none) A with
      | .next _ A => .ok .non A | .ret v A => .ok v A | _ => .bad) else .bad := fun axs A => by
      have : progOf T x = some ⟨e.ps.length, e.N.length, e.body⟩ := by unfold progOf; rw [he]; rfl
      simp only [run, this]
      all_goals (split <;> rfl)
    refine F.ok S (fun vs H Q E ⟨m, A, axs, R, r, h⟩ => ?_) (fun cdv A outer s H vs Q E hr ⟨m, A', axs, R, r, h⟩ => ?_)
    · show vs.length = e.ps.length
      rw [← r.length]
      simp only [key] at h
      split at h
      · rename_i q; exact q
      · exact False.elim h
    · simp only [key] at h
      split at h
      · rename_i hl
        refine ⟨rdSs K ⟨run (progOf T) gl fuel k, gl, fuel⟩ e.body, ?_, m, A', _, R, start_rsl r hl, ?_⟩
        · have O : StOk ⟨run (progOf T) gl fuel k, gl, fuel⟩ (giOf T gl gcd) e.N k (cxOf CX0 P w K mg base e.N e.x (defScope st) f cdv A outer s H E).nox (defScope st) :=
            { sc := rfl, N := rfl, nd := S.nd, calm := rfl, room := hr, blt := blt, gcd := hg,
              con := fun x hx => by
                obtain ⟨v, hv⟩ := Option.isSome_iff_exists.mp hx
                obtain ⟨u, w, h1, h2, h3⟩ := hc x v hv
                exact ⟨v, u, w, hv, h1, h2, h3⟩
              fn := fun y fi hy => by
                obtain ⟨e2, h1, h2⟩ := Option.map_eq_some_iff.mp (show (getF T y).map _ = some fi from hy)
                subst h2
                obtain ⟨f2, fd2, ds, dvs, h3, h4, h5, h6, h7⟩ := (hT e2 (getF_x h1).1).ex
                refine ⟨f2, fd2, e2.ps, dvs, ds, ?_, h3.kp, h5, h6, h7, ih y e2 h1 f2 fd2 h3⟩
                rw [← (getF_x h1).2]
                exact h4
              kind := S.kind, fnAll := fun _ => rfl, pas := PassesOwn.never }
          exact (snd_S O e.fu e.gu).2 _ _ ht
        · cases q : evSs ⟨run (progOf T) gl fuel k, gl, fuel⟩ e.body (axs.map some ++ List.replicate (e.N.length - e.ps.length) none) A' with
          | bad => rw [q] at h; exact False.elim h
          | brk _ _ => rw [q] at h; exact False.elim h
          | cont _ _ => rw [q] at h; exact False.elim h
          | next aσ A2 => rw [q] at h; exact fun m' H' σ' t R' S' => h m' H' t R' _ .non
          | ret v A2 => rw [q] at h; exact fun m' H' x t R' r' => h m' H' t R' x r'
      · exact False.elim h
/-- the law's own head -/
theorem law_sp {H : Hp} {a : Addr} {ns : List Int} {k : Nat} (hO : Only H) (hS : SqL K H a (ns.map V.int)) {A' : AH}
    (h : run (progOf T) gl fuel k "law" [.fl (ns.map AV.int)] [] = .ok (.bl true) A') : spEv K ⟨run (progOf T) gl fuel k, gl, fuel⟩ "law" [.ref a] H (fun v _ => v = .bl true) fun _ _ _ => False := by
  refine ⟨[], [], [.fl (ns.map AV.int)], ⟨rfl, List.nodup_nil, fun n a o h => by simp at h⟩, .cons (.fl (ys := ns.map V.int) ?_ ?_) .nil, ?_⟩
  · rcases hS with (h | ⟨o, h⟩) | h
    · rcases hO a with h2 | ⟨o, xs, h2⟩
      · rw [h] at h2; cases h2
      · rw [h] at h2; cases h2
    · exact .inl ⟨o, h⟩
    · exact .inr h
  · clear h hS
    induction ns with
    | nil => exact .nil
    | cons n r ih => exact .cons (.int n) ih
  · show Fin K [] H (run (progOf T) gl fuel k "law" [.fl (ns.map AV.int)] []) _
    rw [h]
    intro m' H' _ _ x rx
    cases rx
    rfl

theorem ent_mk {gl : Str → Option AV} {G : GI} {h : Heap} {e : Ent} {x : Str} {st : Stmt} (hx : e.x = x) {f : Addr} {oc : Value} {od an : Option Addr} {osl : Array (Option Value)} {kV doc pm cdv ct : Value} (X : K.In h) (Gh : h.Ns mainGlobals mg)
    (a : PySem.W.nsIn K mainGlobals x = some (some (.ref f))) (l : K.lookup f = some ⟨oc, od, .func (PySem.W.fnOf x x (defArgs st) (defBody st) (defScope st) .none kV doc pm an cdv ct), osl⟩) (c : PySem.W.codeIn K cdv x = true) (kp : PySem.W.keepIn K (.ref f) = true)
    (S : FnScope e.N e.ps (defScope st)) (t : trSs G e.N e.fu e.gu (defScope st) (defBody st) = some e.body) (hd : e.dflt = [])
    (b : ∀ (kV doc pm : Value) (an : Option Addr) (cdv ct : Value) (us : List Value), us.length = e.ps.length → bindArgs (PySem.W.fnOf x x (defArgs st) (defBody st) (defScope st) .none kV doc pm an cdv ct) ⟨us, []⟩ = pure (e.ps.zip us)) : EntOk K mg G e := by
  subst hx
  have F := fun_mk (st := st) l c kp
  exact ⟨f, _, [], [], ⟨⟨st, F, S, t⟩, kp⟩, PySem.W.mg_of X Gh a, F.binds b, .nil, fun H m => by rw [hd]; exact .nil⟩
abbrev EntAt {K : PySem.W.Frag} {h : Heap} (_ : K.In h) (mg : Str → Option Value) (G : GI) (e : Ent) : Prop := EntOk K mg G e
abbrev ConAt {K : PySem.W.Frag} {h : Heap} (_ : K.In h) (mg : Str → Option Value) (x : Str) (v : AV) : Prop := ∃ u w, mg x = some u ∧ RelV w u ∧ ∀ H m, RV K H m v w
theorem con_int {h : Heap} {x : Str} {i : Int} {t : Tok} (X : K.In h) (Gh : h.Ns mainGlobals mg) (a : PySem.W.nsIn K mainGlobals x = some (some (.int i t))) : ConAt X mg x (.int i) :=
  ⟨_, .int i, PySem.W.mg_of X Gh a, ⟨_, rfl⟩, fun _ _ => .int _⟩
def bltL : List Str := ["isinstance", "len", "abs", "int", "bool", "str", "tuple", "list", "dict", "sum", "all", "any", "max", "min", "range", "zip", "sorted", "reversed", "enumerate"]
theorem blt_of (h : ∀ x ∈ bltL, mg x = none) : ∀ x, isBlt x = true → mg x = none := fun x hx => h x (List.contains_iff_mem.mp hx)
theorem all0 {q : Str → Prop} : ∀ x ∈ ([] : List Str), q x := fun _ h => by cases h
theorem all1 {q : Str → Prop} {y : Str} {l : List Str} (a : q y) (b : ∀ x ∈ l, q x) : ∀ x ∈ y :: l, q x := List.forall_mem_cons.mpr ⟨a, b⟩
theorem ents0 {q : Ent → Prop} : ∀ x ∈ ([] : List Ent), q x := fun _ h => by cases h
theorem ents1 {q : Ent → Prop} {y : Ent} {l : List Ent} (a : q y) (b : ∀ x ∈ l, q x) : ∀ x ∈ y :: l, q x := List.forall_mem_cons.mpr ⟨a, b⟩

/-- the law's def, and all of it -/
theorem law_F {h : Heap} {e : Ent} {st : Stmt} {k : Nat} {fa f : Addr} {lw p : Str} {oc : Value} {od an : Option Addr} {osl : Array (Option Value)} {kV doc pm cdv ct : Value} (X : K.In h) (Gh : h.Ns mainGlobals mg) (hfa : mg lw = some (.ref fa)) (hx : e.x = lw) (hp : e.ps = [p])
    (a : PySem.W.nsIn K mainGlobals lw = some (some (.ref f))) (l : K.lookup f = some ⟨oc, od, .func (PySem.W.fnOf lw lw (defArgs st) (defBody st) (defScope st) .none kV doc pm an cdv ct), osl⟩) (c : PySem.W.codeIn K cdv lw = true) (kp : PySem.W.keepIn K (.ref f) = true)
    (S : FnScope e.N e.ps (defScope st)) (t : trSs (giOf T gl gcd) e.N e.fu e.gu (defScope st) (defBody st) = some e.body)
    (b : ∀ (kV doc pm : Value) (an : Option Addr) (cdv ct : Value) (u : Value), bindArgs (PySem.W.fnOf lw lw (defArgs st) (defBody st) (defScope st) .none kV doc pm an cdv ct) ⟨[u], []⟩ = pure [(p, u)])
    (hT : EntOk K mg (giOf T gl gcd) e → ∀ e ∈ T, EntOk K mg (giOf T gl gcd) e) (blt : ∀ x, isBlt x = true → mg x = none) (hg : gcd = true → mg "gcd" = some (.builtin "math.gcd"))
    (hc : ∀ x v, gl x = some v → ∃ u w, mg x = some u ∧ RelV w u ∧ ∀ H m, RV K H m v w) (he : getF T lw = some e) (hd : e.dflt = []) :
    ∃ fd : FuncData, (∀ (s : Shared) (u : Value), BindsTo s fd ⟨[u], []⟩ [(p, u)]) ∧ ∀ base : Heap, K.In base → base.Ns mainGlobals mg → FnOk P w K mg base CX0 k fa fd [p] (spEv K ⟨run (progOf T) gl fuel k, gl, fuel⟩ lw) := by
  have e1 := hfa.symm.trans (PySem.W.mg_of X Gh a)
  cases e1
  have F := fun_mk (st := st) l c kp
  have hE : EntFn K (giOf T gl gcd) e fa _ := ⟨⟨st, by rw [hx]; exact F, S, t⟩, kp⟩
  have hb : Binds K (PySem.W.fnOf lw lw (defArgs st) (defBody st) (defScope st) .none kV doc pm an cdv ct) e.ps [] := F.binds fun kV doc pm an cdv ct us hl => by
    rw [hp] at hl ⊢
    cases us with
    | nil => cases hl
    | cons u r => cases r with
      | nil => exact b kV doc pm an cdv ct u
      | cons _ _ => cases hl
  refine ⟨_, fun s u => .of_eq (b kV doc pm an cdv ct u), fun base _ _ => ?_⟩
  have := fn_all (P := P) (w := w) (base := base) (fuel := fuel) (hT ⟨fa, _, [], [], hE, by rw [hx]; exact PySem.W.mg_of X Gh a, hb, .nil, fun H m => by rw [hd]; exact .nil⟩) blt hg hc k lw e he fa _ hE
  rw [hp] at this
  exact this
end
end Ev


set_option linter.all false
set_option maxRecDepth 100000
namespace Ev
open PySem L2

/-! ### reckoning with the evaluator: what comes next is a word of its own, so that simp looks at what runs first alone -/
def Out.fin : Out → Res AV
  | .next _ A => .ok .non A | .ret v A => .ok v A | _ => .bad
section
variable {α β : Type}
@[simp] theorem bind_ok (a : α) (A : AH) (f : α → AH → Res β) : (Res.ok a A).bind f = f a A := id rfl
@[simp] theorem bind_bad (f : α → AH → Res β) : (Res.bad : Res α).bind f = .bad := id rfl
@[simp] theorem out_ok (a : α) (A : AH) (f : α → AH → Out) : (Res.ok a A).out f = f a A := id rfl
@[simp] theorem out_bad (f : α → AH → Out) : (Res.bad : Res α).out f = .bad := id rfl
@[simp] theorem seq_next (σ : Sl) (A : AH) (f : Sl → AH → Out) : (Out.next σ A).seq f = f σ A := id rfl
@[simp] theorem seq_ret (v : AV) (A : AH) (f : Sl → AH → Out) : (Out.ret v A).seq f = .ret v A := id rfl
@[simp] theorem seq_brk (σ : Sl) (A : AH) (f : Sl → AH → Out) : (Out.brk σ A).seq f = .brk σ A := id rfl
@[simp] theorem seq_cont (σ : Sl) (A : AH) (f : Sl → AH → Out) : (Out.cont σ A).seq f = .cont σ A := id rfl
@[simp] theorem turn_next (σ : Sl) (A : AH) (f : Sl → AH → Out) : (Out.next σ A).turn f = f σ A := id rfl
@[simp] theorem turn_ret (v : AV) (A : AH) (f : Sl → AH → Out) : (Out.ret v A).turn f = .ret v A := id rfl
@[simp] theorem turn_brk (σ : Sl) (A : AH) (f : Sl → AH → Out) : (Out.brk σ A).turn f = .next σ A := id rfl
@[simp] theorem turn_cont (σ : Sl) (A : AH) (f : Sl → AH → Out) : (Out.cont σ A).turn f = f σ A := id rfl
@[simp] theorem bind_if (p : Prop) [Decidable p] (r s : Res α) (f : α → AH → Res β) : (if p then r else s).bind f = if p then r.bind f else s.bind f := by split <;> rfl
@[simp] theorem out_if (p : Prop) [Decidable p] (r s : Res α) (f : α → AH → Out) : (if p then r else s).out f = if p then r.out f else s.out f := by split <;> rfl
@[simp] theorem seq_if (p : Prop) [Decidable p] (r s : Out) (f : Sl → AH → Out) : (if p then r else s).seq f = if p then r.seq f else s.seq f := by split <;> rfl
@[simp] theorem fin_if (p : Prop) [Decidable p] (r s : Out) : (if p then r else s).fin = if p then r.fin else s.fin := by split <;> rfl
end
noncomputable section
variable (c : Cfg)
def kBin (o : BOp) (b : E) (σ : Sl) (x : AV) (A : AH) : Res AV := (evE c b σ A).bind (aBin o x)
@[simp] theorem kBin_eq (o : BOp) (b : E) (σ : Sl) (x : AV) (A : AH) : kBin c o b σ x A = (evE c b σ A).bind (aBin o x) := id rfl
@[simp] theorem evE_bin (σ : Sl) (A : AH) (o : BOp) (a b : E) : evE c (.bin o a b) σ A = (evE c a σ A).bind (kBin c o b σ) := id rfl
def kCmp2 (o : COp) (x : AV) (y : AV) (A : AH) : Res AV := match aCmp o x y A with | some k => .ok (.bl k) A | none => .bad
@[simp] theorem kCmp2_eq (o : COp) (x : AV) (y : AV) (A : AH) : kCmp2 o x y A = match aCmp o x y A with | some k => .ok (.bl k) A | none => .bad := id rfl
def kCmp (o : COp) (b : E) (σ : Sl) (x : AV) (A : AH) : Res AV := (evE c b σ A).bind (kCmp2 o x)
@[simp] theorem kCmp_eq (o : COp) (b : E) (σ : Sl) (x : AV) (A : AH) : kCmp c o b σ x A = (evE c b σ A).bind (kCmp2 o x) := id rfl
@[simp] theorem evE_cmp (σ : Sl) (A : AH) (o : COp) (a b : E) : evE c (.cmp o a b) σ A = (evE c a σ A).bind (kCmp c o b σ) := id rfl
def kChain2 (o : COp) (p : COp) (d : E) (σ : Sl) (x : AV) (y : AV) (A : AH) : Res AV := match aCmp o x y A with | some true => (evE c d σ A).bind (kCmp2 p y) | some false => .ok (.bl false) A | none => .bad
@[simp] theorem kChain2_eq (o : COp) (p : COp) (d : E) (σ : Sl) (x : AV) (y : AV) (A : AH) : kChain2 c o p d σ x y A = match aCmp o x y A with | some true => (evE c d σ A).bind (kCmp2 p y) | some false => .ok (.bl false) A | none => .bad := id rfl
def kChain (o : COp) (p : COp) (b : E) (d : E) (σ : Sl) (x : AV) (A : AH) : Res AV := (evE c b σ A).bind (kChain2 c o p d σ x)
@[simp] theorem kChain_eq (o : COp) (p : COp) (b : E) (d : E) (σ : Sl) (x : AV) (A : AH) : kChain c o p b d σ x A = (evE c b σ A).bind (kChain2 c o p d σ x) := id rfl
@[simp] theorem evE_chain (σ : Sl) (A : AH) (o p : COp) (a b d : E) : evE c (.chain o p a b d) σ A = (evE c a σ A).bind (kChain c o p b d σ) := id rfl
def kNeg (x : AV) (A : AH) : Res AV := match x with | .int i => .ok (.int (-i)) A | _ => .bad
@[simp] theorem kNeg_eq (x : AV) (A : AH) : kNeg  x A = match x with | .int i => .ok (.int (-i)) A | _ => .bad := id rfl
@[simp] theorem evE_neg (σ : Sl) (A : AH) (a : E) : evE c (.neg a) σ A = (evE c a σ A).bind kNeg := id rfl
def kNot (x : AV) (A : AH) : Res AV := match truth A x with | some k => .ok (.bl (!k)) A | none => .bad
@[simp] theorem kNot_eq (x : AV) (A : AH) : kNot  x A = match truth A x with | some k => .ok (.bl (!k)) A | none => .bad := id rfl
@[simp] theorem evE_not (σ : Sl) (A : AH) (a : E) : evE c (.not a) σ A = (evE c a σ A).bind kNot := id rfl
def kAnd (b : E) (σ : Sl) (x : AV) (A : AH) : Res AV := match truth A x with | some true => evE c b σ A | some false => .ok x A | none => .bad
@[simp] theorem kAnd_eq (b : E) (σ : Sl) (x : AV) (A : AH) : kAnd c b σ x A = match truth A x with | some true => evE c b σ A | some false => .ok x A | none => .bad := id rfl
@[simp] theorem evE_and (σ : Sl) (A : AH) (a b : E) : evE c (.and a b) σ A = (evE c a σ A).bind (kAnd c b σ) := id rfl
def kOr (b : E) (σ : Sl) (x : AV) (A : AH) : Res AV := match truth A x with | some true => .ok x A | some false => evE c b σ A | none => .bad
@[simp] theorem kOr_eq (b : E) (σ : Sl) (x : AV) (A : AH) : kOr c b σ x A = match truth A x with | some true => .ok x A | some false => evE c b σ A | none => .bad := id rfl
@[simp] theorem evE_or (σ : Sl) (A : AH) (a b : E) : evE c (.or a b) σ A = (evE c a σ A).bind (kOr c b σ) := id rfl
def kIte (a : E) (b : E) (σ : Sl) (k : Bool) (A : AH) : Res AV := if k then evE c a σ A else evE c b σ A
@[simp] theorem kIte_eq (a : E) (b : E) (σ : Sl) (k : Bool) (A : AH) : kIte c a b σ k A = if k then evE c a σ A else evE c b σ A := id rfl
@[simp] theorem evE_ite (σ : Sl) (A : AH) (q a b : E) : evE c (.ite q a b) σ A = ((evE c q σ A).bind tru).bind (kIte c a b σ) := id rfl
def kTup (xs : List AV) (A : AH) : Res AV := if xs.length ≤ sizeLine then .ok (.tup xs) A else .bad
@[simp] theorem kTup_eq (xs : List AV) (A : AH) : kTup  xs A = if xs.length ≤ sizeLine then .ok (.tup xs) A else .bad := id rfl
@[simp] theorem evE_tup (σ : Sl) (A : AH) (es : List E) : evE c (.tup es) σ A = (evEs c es σ A).bind kTup := id rfl
def kIx2 (x : AV) (y : AV) (A : AH) : Res AV := match aIx x y A with | some v => .ok v A | none => .bad
@[simp] theorem kIx2_eq (x : AV) (y : AV) (A : AH) : kIx2 x y A = match aIx x y A with | some v => .ok v A | none => .bad := id rfl
def kIx (b : E) (σ : Sl) (x : AV) (A : AH) : Res AV := (evE c b σ A).bind (kIx2 x)
@[simp] theorem kIx_eq (b : E) (σ : Sl) (x : AV) (A : AH) : kIx c b σ x A = (evE c b σ A).bind (kIx2 x) := id rfl
@[simp] theorem evE_ix (σ : Sl) (A : AH) (a b : E) : evE c (.ix a b) σ A = (evE c a σ A).bind (kIx c b σ) := id rfl
def kSl2 (hi : Option E) (σ : Sl) (x : AV) (l : Option Int) (A : AH) : Res AV := (evO c hi σ A).bind (aSl x l)
@[simp] theorem kSl2_eq (hi : Option E) (σ : Sl) (x : AV) (l : Option Int) (A : AH) : kSl2 c hi σ x l A = (evO c hi σ A).bind (aSl x l) := id rfl
def kSl (lo : Option E) (hi : Option E) (σ : Sl) (x : AV) (A : AH) : Res AV := (evO c lo σ A).bind (kSl2 c hi σ x)
@[simp] theorem kSl_eq (lo : Option E) (hi : Option E) (σ : Sl) (x : AV) (A : AH) : kSl c lo hi σ x A = (evO c lo σ A).bind (kSl2 c hi σ x) := id rfl
@[simp] theorem evE_sl (σ : Sl) (A : AH) (a : E) (lo hi : Option E) : evE c (.sl a lo hi) σ A = (evE c a σ A).bind (kSl c lo hi σ) := id rfl
def kCall (f : Str) (ds : List AV) (xs : List AV) (A : AH) : Res AV := c.fn f (xs ++ ds) A
@[simp] theorem kCall_eq (f : Str) (ds : List AV) (xs : List AV) (A : AH) : kCall c f ds xs A = c.fn f (xs ++ ds) A := id rfl
@[simp] theorem evE_call (σ : Sl) (A : AH) (f : Str) (es : List E) (ds : List AV) : evE c (.call f es ds) σ A = (evEs c es σ A).bind (kCall c f ds) := id rfl
@[simp] theorem evE_bif (σ : Sl) (A : AH) (f : Bif) (es : List E) : evE c (.bif f es) σ A = (evEs c es σ A).bind (aBif f) := id rfl
def kMth (m : Mth) (es : List E) (σ : Sl) (x : AV) (A : AH) : Res AV := if mthTy m x A then (evEs c es σ A).bind (aMth m x) else .bad
@[simp] theorem kMth_eq (m : Mth) (es : List E) (σ : Sl) (x : AV) (A : AH) : kMth c m es σ x A = if mthTy m x A then (evEs c es σ A).bind (aMth m x) else .bad := id rfl
@[simp] theorem evE_mth (σ : Sl) (A : AH) (m : Mth) (o : E) (es : List E) : evE c (.mth m o es) σ A = (evE c o σ A).bind (kMth c m es σ) := id rfl
def kNew (xs : List AV) (A : AH) : Res AV := .ok (.ref A.length) (A ++ [.lst xs])
@[simp] theorem kNew_eq (xs : List AV) (A : AH) : kNew  xs A = .ok (.ref A.length) (A ++ [.lst xs]) := id rfl
@[simp] theorem evE_new (σ : Sl) (A : AH) (l : L) : evE c (.new l) σ A = (evL c l σ A).bind kNew := id rfl
@[simp] theorem evE_lf (σ : Sl) (A : AH) (f : LF) (l : L) : evE c (.lf f l) σ A = (evL c l σ A).bind (aLF f) := id rfl
@[simp] theorem evE_var (σ : Sl) (A : AH) (i : Nat) : evE c (.var i) σ A = match σ[i]? with | some (some v) => .ok v A | _ => .bad := id rfl
@[simp] theorem evE_lit (σ : Sl) (A : AH) (v : AV) : evE c (.lit v) σ A = .ok v A := id rfl
@[simp] theorem evE_glob (σ : Sl) (A : AH) (x : Str) : evE c (.glob x) σ A = match c.gl x with | some v => .ok v A | none => .bad := id rfl
@[simp] theorem evEs_nil (σ : Sl) (A : AH) : evEs c [] σ A = .ok [] A := id rfl
def kCons2 (x : AV) (xs : List AV) (A : AH) : Res (List AV) := .ok (x :: xs) A
@[simp] theorem kCons2_eq (x : AV) (xs : List AV) (A : AH) : kCons2 x xs A = .ok (x :: xs) A := id rfl
def kCons (es : List E) (σ : Sl) (x : AV) (A : AH) : Res (List AV) := (evEs c es σ A).bind (kCons2 x)
@[simp] theorem kCons_eq (es : List E) (σ : Sl) (x : AV) (A : AH) : kCons c es σ x A = (evEs c es σ A).bind (kCons2 x) := id rfl
@[simp] theorem evEs_cons (σ : Sl) (A : AH) (e : E) (es : List E) : evEs c (e :: es) σ A = (evE c e σ A).bind (kCons c es σ) := id rfl
@[simp] theorem evO_none (σ : Sl) (A : AH) : evO c none σ A = .ok none A := id rfl
def kO (x : AV) (A : AH) : Res (Option Int) := match x with | .int i => .ok (some i) A | _ => .bad
@[simp] theorem kO_eq (x : AV) (A : AH) : kO  x A = match x with | .int i => .ok (some i) A | _ => .bad := id rfl
@[simp] theorem evO_some (σ : Sl) (A : AH) (e : E) : evO c (some e) σ A = (evE c e σ A).bind kO := id rfl
def kDisp (xs : List AV) (A : AH) : Res (List AV) := if xs.length ≤ sizeLine then .ok xs A else .bad
@[simp] theorem kDisp_eq (xs : List AV) (A : AH) : kDisp  xs A = if xs.length ≤ sizeLine then .ok xs A else .bad := id rfl
@[simp] theorem evL_disp (σ : Sl) (A : AH) (es : List E) : evL c (.disp es) σ A = (evEs c es σ A).bind kDisp := id rfl
@[simp] theorem evTg_name (σ : Sl) (A : AH) (i : Nat) (v : AV) : evTg c (.name i) v σ A = .ok (σ.set i (some v)) A := id rfl
@[simp] theorem evTg_tup (σ : Sl) (A : AH) (ts : List T) (v : AV) : evTg c (.tup ts) v σ A = match v with | .tup xs => if xs.length = ts.length then evTs c ts xs σ A else .bad | _ => .bad := id rfl
def kTsub2 (v : AV) (σ : Sl) (x : AV) (y : AV) (A : AH) : Res Sl := match aSet x y v A with | some A' => .ok σ A' | none => .bad
@[simp] theorem kTsub2_eq (v : AV) (σ : Sl) (x : AV) (y : AV) (A : AH) : kTsub2 v σ x y A = match aSet x y v A with | some A' => .ok σ A' | none => .bad := id rfl
def kTsub (i : E) (v : AV) (σ : Sl) (x : AV) (A : AH) : Res Sl := (evE c i σ A).bind (kTsub2 v σ x)
@[simp] theorem kTsub_eq (i : E) (v : AV) (σ : Sl) (x : AV) (A : AH) : kTsub c i v σ x A = (evE c i σ A).bind (kTsub2 v σ x) := id rfl
@[simp] theorem evTg_sub (σ : Sl) (A : AH) (o i : E) (v : AV) : evTg c (.sub o i) v σ A = (evE c o σ A).bind (kTsub c i v σ) := id rfl
@[simp] theorem evTs_nil (σ : Sl) (A : AH) : evTs c [] [] σ A = .ok σ A := id rfl
def kTs (ts : List T) (xs : List AV) (σ : Sl) (A : AH) : Res Sl := evTs c ts xs σ A
@[simp] theorem kTs_eq (ts : List T) (xs : List AV) (σ : Sl) (A : AH) : kTs c ts xs σ A = evTs c ts xs σ A := id rfl
@[simp] theorem evTs_cons (σ : Sl) (A : AH) (t : T) (ts : List T) (x : AV) (xs : List AV) : evTs c (t :: ts) (x :: xs) σ A = (evTg c t x σ A).bind (kTs c ts xs) := id rfl
def kAsg (t : T) (σ : Sl) (v : AV) (A : AH) : Out := (evTg c t v σ A).out .next
@[simp] theorem kAsg_eq (t : T) (σ : Sl) (v : AV) (A : AH) : kAsg c t σ v A = (evTg c t v σ A).out .next := id rfl
@[simp] theorem evS_asg (σ : Sl) (A : AH) (t : T) (e : E) : evS c (.asg t e) σ A = (evE c e σ A).out (kAsg c t σ) := id rfl
def kPar2 (i : Nat) (j : Nat) (σ : Sl) (x : AV) (y : AV) (A : AH) : Out := .next ((σ.set i (some x)).set j (some y)) A
@[simp] theorem kPar2_eq (i : Nat) (j : Nat) (σ : Sl) (x : AV) (y : AV) (A : AH) : kPar2 i j σ x y A = .next ((σ.set i (some x)).set j (some y)) A := id rfl
def kPar (i : Nat) (j : Nat) (b : E) (σ : Sl) (x : AV) (A : AH) : Out := (evE c b σ A).out (kPar2 i j σ x)
@[simp] theorem kPar_eq (i : Nat) (j : Nat) (b : E) (σ : Sl) (x : AV) (A : AH) : kPar c i j b σ x A = (evE c b σ A).out (kPar2 i j σ x) := id rfl
@[simp] theorem evS_par (σ : Sl) (A : AH) (i j : Nat) (a b : E) : evS c (.par i j a b) σ A = (evE c a σ A).out (kPar c i j b σ) := id rfl
def kAug2 (i : Nat) (σ : Sl) (z : AV) (A : AH) : Out := .next (σ.set i (some z)) A
@[simp] theorem kAug2_eq (i : Nat) (σ : Sl) (z : AV) (A : AH) : kAug2 i σ z A = .next (σ.set i (some z)) A := id rfl
def kAug (i : Nat) (o : BOp) (σ : Sl) (x : AV) (y : AV) (A : AH) : Out := (aAug o x y A).out (kAug2 i σ)
@[simp] theorem kAug_eq (i : Nat) (o : BOp) (σ : Sl) (x : AV) (y : AV) (A : AH) : kAug i o σ x y A = (aAug o x y A).out (kAug2 i σ) := id rfl
@[simp] theorem evS_aug (σ : Sl) (A : AH) (i : Nat) (o : BOp) (e : E) : evS c (.aug i o e) σ A = match σ[i]? with | some (some x) => (evE c e σ A).out (kAug i o σ x) | _ => .bad := id rfl
def kAugs4 (σ : Sl) (x : AV) (y : AV) (z : AV) (A : AH) : Out := match aSet x y z A with | some A' => .next σ A' | none => .bad
@[simp] theorem kAugs4_eq (σ : Sl) (x : AV) (y : AV) (z : AV) (A : AH) : kAugs4 σ x y z A = match aSet x y z A with | some A' => .next σ A' | none => .bad := id rfl
def kAugs3 (op : BOp) (σ : Sl) (x : AV) (y : AV) (v : AV) (w : AV) (A : AH) : Out := (aAug op v w A).out (kAugs4 σ x y)
@[simp] theorem kAugs3_eq (op : BOp) (σ : Sl) (x : AV) (y : AV) (v : AV) (w : AV) (A : AH) : kAugs3 op σ x y v w A = (aAug op v w A).out (kAugs4 σ x y) := id rfl
def kAugs2 (op : BOp) (e : E) (σ : Sl) (x : AV) (y : AV) (A : AH) : Out := if mthTy .append x A then (match aIx x y A with | some v => (evE c e σ A).out (kAugs3 op σ x y v) | none => .bad) else .bad
@[simp] theorem kAugs2_eq (op : BOp) (e : E) (σ : Sl) (x : AV) (y : AV) (A : AH) : kAugs2 c op e σ x y A = if mthTy .append x A then (match aIx x y A with | some v => (evE c e σ A).out (kAugs3 op σ x y v) | none => .bad) else .bad := id rfl
def kAugs (i : E) (op : BOp) (e : E) (σ : Sl) (x : AV) (A : AH) : Out := (evE c i σ A).out (kAugs2 c op e σ x)
@[simp] theorem kAugs_eq (i : E) (op : BOp) (e : E) (σ : Sl) (x : AV) (A : AH) : kAugs c i op e σ x A = (evE c i σ A).out (kAugs2 c op e σ x) := id rfl
@[simp] theorem evS_augs (σ : Sl) (A : AH) (o i : E) (op : BOp) (e : E) : evS c (.augs o i op e) σ A = (evE c o σ A).out (kAugs c i op e σ) := id rfl
def kExpr (σ : Sl) (v : AV) (A : AH) : Out := .next σ A
@[simp] theorem kExpr_eq (σ : Sl) (v : AV) (A : AH) : kExpr σ v A = .next σ A := id rfl
@[simp] theorem evS_expr (σ : Sl) (A : AH) (e : E) : evS c (.expr e) σ A = (evE c e σ A).out (kExpr σ) := id rfl
@[simp] theorem evS_ret (σ : Sl) (A : AH) (e : E) : evS c (.ret e) σ A = (evE c e σ A).out .ret := id rfl
def kIf (a : List S) (b : List S) (σ : Sl) (k : Bool) (A : AH) : Out := if k then evSs c a σ A else evSs c b σ A
@[simp] theorem kIf_eq (a : List S) (b : List S) (σ : Sl) (k : Bool) (A : AH) : kIf c a b σ k A = if k then evSs c a σ A else evSs c b σ A := id rfl
@[simp] theorem evS_if (σ : Sl) (A : AH) (q : E) (a b : List S) : evS c (.if_ q a b) σ A = ((evE c q σ A).bind tru).out (kIf c a b σ) := id rfl
@[simp] theorem evS_pass (σ : Sl) (A : AH) : evS c .pass σ A = .next σ A := id rfl
@[simp] theorem evS_brk (σ : Sl) (A : AH) : evS c .brk σ A = .brk σ A := id rfl
@[simp] theorem evS_cont (σ : Sl) (A : AH) : evS c .cont σ A = .cont σ A := id rfl
@[simp] theorem evSs_nil (σ : Sl) (A : AH) : evSs c [] σ A = .next σ A := id rfl
def kSs (r : List S) (σ : Sl) (A : AH) : Out := evSs c r σ A
@[simp] theorem kSs_eq (r : List S) (σ : Sl) (A : AH) : kSs c r σ A = evSs c r σ A := id rfl
@[simp] theorem evSs_cons (σ : Sl) (A : AH) (s : S) (r : List S) : evSs c (s :: r) σ A = (evS c s σ A).seq (kSs c r) := id rfl
@[simp] theorem evT_eq (σ : Sl) (A : AH) (e : E) : evT c e σ A = (evE c e σ A).bind tru := id rfl
theorem evL_comp (σ : Sl) (A : AH) (own : List Nat) (it : I) (tg : T) (q elt : E) : evL c (.comp own it tg q elt) σ A = (evI c it σ A).bind fun t A =>
      compGo t.chk (fun x A => evTg c tg x (wipeS σ own) A) (fun σ A => (evE c q σ A).bind tru) (fun σ A => evE c elt σ A) t.items [] A := rfl
theorem evI_v (σ : Sl) (A : AH) (e : E) : evI c (.v e) σ A = (evE c e σ A).bind fun x A => match x with
    | .tup xs => .ok (.val xs) A
    | .fl xs => .ok (.val xs) A
    | .ref n => (match A[n]? with | some (.lst xs) => .ok (.obj n xs) A | _ => .bad)
    | _ => .bad := rfl
theorem evI_l (σ : Sl) (A : AH) (l : L) : evI c (.l l) σ A = (evL c l σ A).bind fun xs A => .ok (.val xs) A := rfl
theorem evI_range1 (σ : Sl) (A : AH) (a : E) : evI c (.range1 a) σ A = (evE c a σ A).bind fun x A => match x with
    | .int j => if -(2 ^ 62) ≤ j ∧ j < 2 ^ 62 then .ok (.val ((List.range j.toNat).map fun (k : Nat) => AV.int k)) A else .bad
    | _ => .bad := rfl
theorem evI_range2 (σ : Sl) (A : AH) (a b : E) : evI c (.range2 a b) σ A = (evE c a σ A).bind fun x A => (evE c b σ A).bind fun y A => match x, y with
    | .int i, .int j => if -(2 ^ 62) ≤ i ∧ i < 2 ^ 62 ∧ -(2 ^ 62) ≤ j ∧ j < 2 ^ 62 then .ok (.val ((List.range (j - i).toNat).map fun (k : Nat) => AV.int (i + k))) A else .bad
    | _, _ => .bad := rfl
theorem evS_for (σ : Sl) (A : AH) (t : T) (it : I) (b : List S) : evS c (.for_ t it b) σ A = (evI c it σ A).out fun m A => forGo m.chk (fun x σ A => evTg c t x σ A) (fun σ A => evSs c b σ A) m.items σ A := rfl
theorem evS_while (σ : Sl) (A : AH) (q : E) (b : List S) : evS c (.while_ q b) σ A = whGo (fun σ A => evT c q σ A) (fun σ A => evSs c b σ A) c.fuel σ A := rfl
end
section
variable {α β : Type} (A : AH)
@[simp] theorem tru_bl (b : Bool) : tru (.bl b) A = .ok b A := id rfl
@[simp] theorem truth_bl (b : Bool) : truth A (.bl b) = some b := id rfl
@[simp] theorem fin_ret (v : AV) : (Out.ret v A).fin = .ok v A := id rfl
@[simp] theorem fin_next (σ : Sl) : (Out.next σ A).fin = .ok .non A := id rfl
@[simp] theorem add_int (i j : Int) : aBin .add (.int i) (.int j) A = .ok (.int (i + j)) A := id rfl
@[simp] theorem sub_int (i j : Int) : aBin .sub (.int i) (.int j) A = .ok (.int (i - j)) A := id rfl
@[simp] theorem augadd_int (i j : Int) : aAug .add (.int i) (.int j) A = .ok (.int (i + j)) A := id rfl
@[simp] theorem augsub_int (i j : Int) : aAug .sub (.int i) (.int j) A = .ok (.int (i - j)) A := id rfl
theorem mulOk_r {i j : Int} (h : -(2 ^ 64) < j ∧ j < 2 ^ 64) : mulOk i j = true := by
  unfold mulOk
  rw [decide_eq_true h.1, decide_eq_true h.2]
  simp
theorem mulOk_l {i j : Int} (h : -(2 ^ 64) < i ∧ i < 2 ^ 64) : mulOk i j = true := by
  unfold mulOk
  rw [decide_eq_true h.1, decide_eq_true h.2]
  simp
theorem mul_r {i j : Int} (h : -(2 ^ 64) < j ∧ j < 2 ^ 64) : aBin .mul (.int i) (.int j) A = .ok (.int (i * j)) A := by simp only [aBin, mulOk_r h, if_true]
theorem mul_l {i j : Int} (h : -(2 ^ 64) < i ∧ i < 2 ^ 64) : aBin .mul (.int i) (.int j) A = .ok (.int (i * j)) A := by simp only [aBin, mulOk_l h, if_true]
theorem fdiv_int {i j : Int} (h : 0 < j) (h2 : j.natAbs.log2 < 9000) : aBin .fdiv (.int i) (.int j) A = .ok (.int (i / j)) A := by
  have : divOk j = true := by unfold divOk; simp [h, h2]
  simp only [aBin, this, if_true, Int.fdiv_eq_ediv_of_nonneg i (Int.le_of_lt h)]
theorem mod_int {i j : Int} (h : 0 < j) : aBin .mod (.int i) (.int j) A = .ok (.int (i % j)) A := by
  have h2 : j ≠ 0 := by omega
  simp only [aBin, if_pos h2, Int.fmod_eq_emod_of_nonneg i (Int.le_of_lt h)]
@[simp] theorem lt_int (i j : Int) : aCmp .lt (.int i) (.int j) A = some (decide (i < j)) := id rfl
@[simp] theorem gt_int (i j : Int) : aCmp .gt (.int i) (.int j) A = some (decide (j < i)) := id rfl
@[simp] theorem le_int (i j : Int) : aCmp .le (.int i) (.int j) A = some (decide (i ≤ j)) := id rfl
@[simp] theorem ge_int (i j : Int) : aCmp .ge (.int i) (.int j) A = some (decide (j ≤ i)) := id rfl
end
theorem pds_ints : ∀ xs : List Int, pds (xs.map AV.int) = some (xs.map PyData.int)
  | [] => rfl
  | x :: r => by simp only [List.map_cons, pds, pd0, pds_ints r]
theorem lay_ints : ∀ xs : List Int, PyData.canLayAll0 (xs.map PyData.int) = true
  | [] => rfl
  | x :: r => by simp only [List.map_cons, PyData.canLayAll0, PyData.canLay0, lay_ints r, Bool.and_self]
theorem depth_ints : ∀ xs : List Int, PyData.depthAll (xs.map PyData.int) ≤ 1
  | [] => by simp [PyData.depthAll]
  | x :: r => by
    have := depth_ints r
    simp only [List.map_cons, PyData.depthAll, PyData.depth]
    omega
theorem eqv_ints : ∀ xs ys : List Int, PyData.eqvAll (xs.map PyData.int) (ys.map PyData.int) = decide (xs = ys)
  | [], [] => rfl
  | [], _ :: _ => rfl
  | _ :: _, [] => rfl
  | x :: xs, y :: ys => by
    simp only [List.map_cons, PyData.eqvAll, PyData.eqv, eqv_ints xs ys, List.cons.injEq, Bool.decide_and]
    rfl
theorem shaped_tup_ints (xs : List Int) : SeqAt.shaped (.tuple (xs.map PyData.int)) = true := by
  have := depth_ints xs
  show (PyData.canLayAll0 (xs.map PyData.int) && decide (PyData.depthAll (xs.map PyData.int) + 1 ≤ 64)) = true
  rw [lay_ints, decide_eq_true (by omega)]
  rfl
theorem shaped_lst_ints (xs : List Int) : SeqAt.shaped (.list (xs.map PyData.int)) = true := by
  have := depth_ints xs
  show (PyData.canLayAll0 (xs.map PyData.int) && decide (PyData.depthAll (xs.map PyData.int) + 1 ≤ 64)) = true
  rw [lay_ints, decide_eq_true (by omega)]
  rfl
section
variable (A : AH)
@[simp] theorem eq_int (i j : Int) : aCmp .eq (.int i) (.int j) A = some (decide (i = j)) := id rfl
@[simp] theorem ne_int (i j : Int) : aCmp .ne (.int i) (.int j) A = some (!decide (i = j)) := id rfl
@[simp] theorem eq_bl (i j : Bool) : aCmp .eq (.bl i) (.bl j) A = some (i == j) := id rfl
@[simp] theorem ne_bl (i j : Bool) : aCmp .ne (.bl i) (.bl j) A = some (!(i == j)) := id rfl
theorem eq_tints (xs ys : List Int) : aCmp .eq (.tup (xs.map .int)) (.tup (ys.map .int)) A = some (decide (xs = ys)) := by
  simp only [aCmp, aEq, pd, pd0, pds_ints, Option.map_some, shaped_tup_ints, Bool.and_self, if_true, PyData.eqv, eqv_ints]
theorem ne_tints (xs ys : List Int) : aCmp .ne (.tup (xs.map .int)) (.tup (ys.map .int)) A = some (!decide (xs = ys)) := by
  simp only [aCmp, aEq, pd, pd0, pds_ints, Option.map_some, shaped_tup_ints, Bool.and_self, if_true, PyData.eqv, eqv_ints]
theorem ne_lints {n k : Nat} {xs ys : List Int} (h1 : A[n]? = some (.lst (xs.map .int))) (h2 : A[k]? = some (.lst (ys.map .int))) : aCmp .ne (.ref n) (.ref k) A = some (!decide (xs = ys)) := by
  simp only [aCmp, aEq, pd, h1, h2, pds_ints, Option.map_some, shaped_lst_ints, Bool.and_self, if_true, PyData.eqv, eqv_ints]
theorem eq_lints {n k : Nat} {xs ys : List Int} (h1 : A[n]? = some (.lst (xs.map .int))) (h2 : A[k]? = some (.lst (ys.map .int))) : aCmp .eq (.ref n) (.ref k) A = some (decide (xs = ys)) := by
  simp only [aCmp, aEq, pd, h1, h2, pds_ints, Option.map_some, shaped_lst_ints, Bool.and_self, if_true, PyData.eqv, eqv_ints]
end
theorem evSs_append (c : Cfg) (b : List S) : ∀ (a : List S) (σ : Sl) (A : AH), evSs c (a ++ b) σ A = (evSs c a σ A).seq fun σ A => evSs c b σ A
  | [], _, _ => rfl
  | s :: r, σ, A => by
    rw [List.cons_append, evSs_cons, evSs_cons]
    cases evS c s σ A with
    | next σ1 A1 => exact evSs_append c b r σ1 A1
    | _ => rfl
theorem run_eq {T : List Ent} {gl : Str → Option AV} {fuel k : Nat} {x : Str} {e : Ent} (h : getF T x = some e) {xs : List AV} (A : AH) (hl : xs.length = e.ps.length) :
    run (progOf T) gl fuel (k + 1) x xs A = (evSs ⟨run (progOf T) gl fuel k, gl, fuel⟩ e.body (xs.map some ++ List.replicate (e.N.length - e.ps.length) none) A).fin := by
  have : progOf T x = some ⟨e.ps.length, e.N.length, e.body⟩ := by unfold progOf; rw [h]; rfl
  simp only [run, this, if_pos hl]
  rfl
end Ev


set_option linter.all false
set_option maxRecDepth 100000
set_option maxHeartbeats 2000000
namespace Ev
open PySem L2

/-! ### the drawing of numbers from a script -/
def Dr (A : AH) (c : Nat) : Prop := ∃ (s : Nat) (cells : List Int) (p b t u : Int), A[c]? = some (.lst [.ref s, .int p, .int b, .int t, .int u]) ∧ A[s]? = some (.lst (cells.map .int)) ∧ 0 ≤ p ∧ s < c
/-- but for the object at c all is as it was, and the drawer at c is whole -/
structure Fr (c : Nat) (A A' : AH) : Prop where
  len : A.length ≤ A'.length
  old : ∀ i, i < A.length → i ≠ c → A'[i]? = A[i]?
  dr : Dr A' c
theorem Dr.lt {A : AH} {c : Nat} (h : Dr A c) : c < A.length := by
  obtain ⟨s, cells, p, b, t, u, h, _⟩ := h
  exact (List.getElem?_eq_some_iff.mp h).1
theorem Fr.refl {c : Nat} {A : AH} (h : Dr A c) : Fr c A A := ⟨Nat.le_refl _, fun _ _ _ => rfl, h⟩
theorem Fr.trans {c : Nat} {A B C : AH} (h : Fr c A B) (g : Fr c B C) : Fr c A C :=
  ⟨Nat.le_trans h.len g.len, fun i h1 h2 => by rw [g.old i (Nat.lt_of_lt_of_le h1 h.len) h2, h.old i h1 h2], g.dr⟩
theorem Dr.app {A : AH} {c : Nat} (h : Dr A c) (G : AH) : Dr (A ++ G) c := by
  obtain ⟨s, cells, p, b, t, u, h1, h2, h3, h4⟩ := h
  refine ⟨s, cells, p, b, t, u, ?_, ?_, h3, h4⟩
  · rw [List.getElem?_append_left (List.getElem?_eq_some_iff.mp h1).1]; exact h1
  · rw [List.getElem?_append_left (List.getElem?_eq_some_iff.mp h2).1]; exact h2
theorem Fr.app {c : Nat} {A : AH} (h : Dr A c) (G : AH) : Fr c A (A ++ G) :=
  ⟨by simp, fun i h1 _ => by rw [List.getElem?_append_left h1], h.app G⟩
theorem Fr.set {c : Nat} {A : AH} {s : Nat} {cells : List Int} {p b t u : Int} (h : c < A.length) (h1 : A[s]? = some (.lst (cells.map .int))) (h2 : 0 ≤ p) (h3 : s < c) :
    Fr c A (A.set c (.lst [.ref s, .int p, .int b, .int t, .int u])) :=
  ⟨by simp, fun i _ h => by rw [List.getElem?_set_ne (Ne.symm h)], ⟨s, cells, p, b, t, u, by simp [h], by rw [List.getElem?_set_ne (Nat.ne_of_gt h3)]; exact h1, h2, h3⟩⟩
theorem Fr.setNew {d n : Nat} {A A' : AH} (F : Fr d A A') (h : d < A.length) (hn : A.length ≤ n) (o : AO) : Fr d A (A'.set n o) := by
  refine ⟨by simpa using F.len, fun i h1 h2 => by rw [List.getElem?_set_ne (by omega)]; exact F.old i h1 h2, ?_⟩
  obtain ⟨s, cells, p, b, t, u, h1, h2, h3, h4⟩ := F.dr
  exact ⟨s, cells, p, b, t, u, by rw [List.getElem?_set_ne (by omega)]; exact h1, by rw [List.getElem?_set_ne (by omega)]; exact h2, h3, h4⟩
def bDraw : List S := [.if_ (.cmp .gt (.ix (.var 0) (.lit (.int 2))) (.lit (.int 0))) [.asg (.name 2) (.ix (.var 0) (.lit (.int 2))),
      .asg (.sub (.var 0) (.lit (.int 2))) (.bin .fdiv (.var 2) (.var 1)),
      .ret (.bin .mod (.bif .int_ [(.var 2)]) (.var 1))] [],
    .asg (.name 3) (.lit (.int 0)),
    .if_ (.cmp .lt (.ix (.var 0) (.lit (.int 1))) (.bif .len [(.ix (.var 0) (.lit (.int 0)))])) [.asg (.name 4) (.ix (.ix (.var 0) (.lit (.int 0))) (.ix (.var 0) (.lit (.int 1)))),
      .asg (.name 3) (.bin .add (.bin .mul (.lit (.int 2)) (.bif .abs [(.var 4)])) (.bif .int_ [(.cmp .lt (.var 4) (.lit (.int 0)))]))] [],
    .augs (.var 0) (.lit (.int 1)) .add (.lit (.int 1)),
    .if_ (.cmp .ge (.var 3) (.bin .mul (.lit (.int 2)) (.bin .pow (.lit (.int 10)) (.lit (.int 18))))) [.asg (.name 2) (.bin .mod (.bif .int_ [(.bin .fdiv (.var 3) (.lit (.int 2)))]) (.bin .shl (.lit (.int 1)) (.lit (.int 6000)))),
      .asg (.sub (.var 0) (.lit (.int 2))) (.bin .fdiv (.var 2) (.var 1)),
      .ret (.bin .mod (.bif .int_ [(.var 2)]) (.var 1))] [],
    .asg (.sub (.var 0) (.lit (.int 3))) (.bin .mod (.bif .int_ [(.bin .add (.bin .add (.bin .add (.bin .mul (.ix (.var 0) (.lit (.int 3))) (.lit (.int 48271))) (.bin .mul (.bin .mod (.bif .int_ [(.var 3)]) (.lit (.int 2147483629))) (.lit (.int 16807)))) (.bin .mul (.ix (.var 0) (.lit (.int 1))) (.lit (.int 69621)))) (.lit (.int 11)))]) (.lit (.int 2147483647))),
    .ret (.bin .mod (.bif .int_ [(.bin .fdiv (.ix (.var 0) (.lit (.int 3))) (.lit (.int 16)))]) (.var 1))]

theorem ix5_0 {A : AH} {c : Nat} {x0 x1 x2 x3 x4 : AV} (h : A[c]? = some (.lst [x0, x1, x2, x3, x4])) : aIx (.ref c) (.int 0) A = some x0 := by simp only [aIx, seqOf, h, Option.bind_some]; rfl
theorem ix5_1 {A : AH} {c : Nat} {x0 x1 x2 x3 x4 : AV} (h : A[c]? = some (.lst [x0, x1, x2, x3, x4])) : aIx (.ref c) (.int 1) A = some x1 := by simp only [aIx, seqOf, h, Option.bind_some]; rfl
theorem ix5_2 {A : AH} {c : Nat} {x0 x1 x2 x3 x4 : AV} (h : A[c]? = some (.lst [x0, x1, x2, x3, x4])) : aIx (.ref c) (.int 2) A = some x2 := by simp only [aIx, seqOf, h, Option.bind_some]; rfl
theorem ix5_3 {A : AH} {c : Nat} {x0 x1 x2 x3 x4 : AV} (h : A[c]? = some (.lst [x0, x1, x2, x3, x4])) : aIx (.ref c) (.int 3) A = some x3 := by simp only [aIx, seqOf, h, Option.bind_some]; rfl
theorem set5_1 {A : AH} {c : Nat} {x0 x1 x2 x3 x4 v : AV} (h : A[c]? = some (.lst [x0, x1, x2, x3, x4])) : aSet (.ref c) (.int 1) v A = some (A.set c (.lst [x0, v, x2, x3, x4])) := by simp only [aSet, h]; rfl
theorem set5_2 {A : AH} {c : Nat} {x0 x1 x2 x3 x4 v : AV} (h : A[c]? = some (.lst [x0, x1, x2, x3, x4])) : aSet (.ref c) (.int 2) v A = some (A.set c (.lst [x0, x1, v, x3, x4])) := by simp only [aSet, h]; rfl
theorem set5_3 {A : AH} {c : Nat} {x0 x1 x2 x3 x4 v : AV} (h : A[c]? = some (.lst [x0, x1, x2, x3, x4])) : aSet (.ref c) (.int 3) v A = some (A.set c (.lst [x0, x1, x2, v, x4])) := by simp only [aSet, h]; rfl
@[simp] theorem int_int (i : Int) (A : AH) : aBif .int_ [.int i] A = .ok (.int i) A := id rfl
@[simp] theorem int_bl (b : Bool) (A : AH) : aBif .int_ [.bl b] A = .ok (.int (if b then 1 else 0)) A := id rfl
@[simp] theorem abs_int (i : Int) (A : AH) : aBif .abs [.int i] A = .ok (.int (if i < 0 then -i else i)) A := id rfl
theorem len_ref {A : AH} {s : Nat} {xs : List AV} (h : A[s]? = some (.lst xs)) : aBif .len [.ref s] A = .ok (.int xs.length) A := by simp only [aBif, seqOf, h]
theorem ix_ref {A : AH} {s : Nat} {xs : List AV} {i : Int} (h : A[s]? = some (.lst xs)) : aIx (.ref s) (.int i) A = atI xs i := by simp only [aIx, seqOf, h, Option.bind_some]
theorem mthTy_ref {A : AH} {s : Nat} {xs : List AV} {m : Mth} (h : A[s]? = some (.lst xs)) : mthTy m (.ref s) A = true := by simp only [mthTy, h]
theorem p18 (A : AH) : aBin .pow (.int 10) (.int 18) A = .ok (.int 1000000000000000000) A := by
  have h : powOk 10 18 = true := by decide +kernel
  simp only [aBin, h, if_true]; rfl
theorem sh6000 (A : AH) : aBin .shl (.int 1) (.int 6000) A = .ok (.int (2 ^ 6000)) A := by
  have h : powOk 1 6000 = true := by decide +kernel
  simp only [aBin, h, if_true, Int.one_mul]; rfl
theorem draw_ev (cf : Cfg) {A : AH} {c : Nat} {many : Int} (h : Dr A c) (hm : 0 < many) (hl : many.natAbs.log2 < 9000) :
    ∃ v A', (evSs cf bDraw [some (.ref c), some (.int many), none, none, none] A).fin = .ok (.int v) A' ∧ 0 ≤ v ∧ v < many ∧ Fr c A A' := by
  have hlt := h.lt
  obtain ⟨s, cells, p, b, t, u, h1, h2, h3, h4⟩ := h
  by_cases hb : 0 < b
  · refine ⟨b % many, A.set c (.lst [.ref s, .int p, .int (b / many), .int t, .int u]), ?_, Int.emod_nonneg _ (by omega), Int.emod_lt_of_pos _ hm, Fr.set hlt h2 h3 h4⟩
    unfold bDraw
    simp [ix5_2 h1, set5_2 h1, hb, fdiv_int _ hm hl, mod_int _ hm]
  · -- the cell
    obtain ⟨o4, size, hr⟩ : ∃ o4 size, evSs cf (bDraw.take 3) [some (.ref c), some (.int many), none, none, none] A = .next [some (.ref c), some (.int many), none, some (.int size), o4] A := by
      by_cases hp : p < cells.length
      · obtain ⟨cl, hx⟩ : ∃ cl, atI (cells.map AV.int) p = some (.int cl) := by
          obtain ⟨n, rfl⟩ : ∃ n : Nat, p = n := ⟨p.toNat, by omega⟩
          exact ⟨cells[n]'(by omega), atI_nat (by rw [List.getElem?_map, List.getElem?_eq_getElem (by omega)]; rfl)⟩
        refine ⟨some (.int cl), 2 * (if cl < 0 then -cl else cl) + (if decide (cl < 0) then 1 else 0), ?_⟩
        simp [bDraw, ix5_2 h1, hb, ix5_1 h1, ix5_0 h1, len_ref h2, hp, ix_ref h2, hx, mul_l A (i := 2) (by decide)]
      · refine ⟨none, 0, ?_⟩
        simp [bDraw, ix5_2 h1, hb, ix5_1 h1, ix5_0 h1, len_ref h2, hp]
    have h1' : (A.set c (.lst [.ref s, .int (p + 1), .int b, .int t, .int u]))[c]? = some (.lst [.ref s, .int (p + 1), .int b, .int t, .int u]) := by simp [hlt]
    have F1 : Fr c A (A.set c (.lst [.ref s, .int (p + 1), .int b, .int t, .int u])) := Fr.set hlt h2 (by omega) h4
    have e : bDraw = bDraw.take 3 ++ bDraw.drop 3 := (List.take_append_drop 3 bDraw).symm
    rw [e, evSs_append, hr]
    have h2' : (A.set c (.lst [.ref s, .int (p + 1), .int b, .int t, .int u]))[s]? = some (.lst (cells.map .int)) := by rw [List.getElem?_set_ne (Nat.ne_of_gt h4)]; exact h2
    generalize hB : A.set c (.lst [.ref s, .int (p + 1), .int b, .int t, .int u]) = B at h1' F1 h2'
    have hltB : c < B.length := by rw [← hB]; simpa using hlt
    by_cases hs : 2000000000000000000 ≤ size
    · refine ⟨(size / 2 % 2 ^ 6000) % many, B.set c (.lst [.ref s, .int (p + 1), .int ((size / 2 % 2 ^ 6000) / many), .int t, .int u]), ?_, Int.emod_nonneg _ (by omega), Int.emod_lt_of_pos _ hm, F1.trans (Fr.set hltB h2' (by omega) h4)⟩
      simp [bDraw, mthTy_ref h1, ix5_1 h1, set5_1 h1, hB, mul_l _ (i := 2) (j := 1000000000000000000) (by decide), p18, hs, fdiv_int _ (i := size) (j := 2) (by decide) (by decide), sh6000, mod_int _ (j := 2 ^ 6000) (Int.pow_pos (by decide)), fdiv_int _ hm hl, set5_2 h1', mod_int _ hm]
    · obtain ⟨t', ht⟩ : ∃ t', (t * 48271 + size % 2147483629 * 16807 + (p + 1) * 69621 + 11) % 2147483647 = t' := ⟨_, rfl⟩
      have h5 : (B.set c (.lst [.ref s, .int (p + 1), .int b, .int t', .int u]))[c]? = some (.lst [.ref s, .int (p + 1), .int b, .int t', .int u]) := by simp [hltB]
      refine ⟨(t' / 16) % many, B.set c (.lst [.ref s, .int (p + 1), .int b, .int t', .int u]), ?_, Int.emod_nonneg _ (by omega), Int.emod_lt_of_pos _ hm, F1.trans (Fr.set hltB h2' (by omega) h4)⟩
      simp [bDraw, mthTy_ref h1, ix5_1 h1, set5_1 h1, hB, mul_l _ (i := 2) (j := 1000000000000000000) (by decide), p18, hs, ix5_3 h1', ix5_1 h1', mul_r _ (j := 48271) (by decide), mul_r _ (j := 16807) (by decide), mul_r _ (j := 69621) (by decide), mod_int _ (j := 2147483629) (by decide), mod_int _ (j := 2147483647) (by decide), set5_3 h1', ht, ix5_3 h5, fdiv_int _ (i := t') (j := 16) (by decide) (by decide), mod_int _ hm]
end Ev


set_option linter.all false
set_option maxRecDepth 100000
set_option maxHeartbeats 2000000
namespace Ev
open PySem L2

/-! ### loops, kinds of things -/
theorem comp_wp {chk : AH → Bool} {tg : AV → AH → Res Sl} {q : Sl → AH → Res Bool} {elt : Sl → AH → Res AV} (xs : List AV) (I : Nat → List AV → AH → Prop) (hl : xs.length ≤ sizeLine)
    (hc : ∀ i acc A, i ≤ xs.length → I i acc A → chk A = true ∧ acc.length ≤ i)
    (step : ∀ i x acc A, xs[i]? = some x → I i acc A → ∃ σ2 A2 k A3, tg x A = .ok σ2 A2 ∧ q σ2 A2 = .ok k A3 ∧ (if k = true then ∃ y A4, elt σ2 A3 = .ok y A4 ∧ I (i + 1) (acc ++ [y]) A4 else I (i + 1) acc A3)) :
    ∀ (n i : Nat) (acc : List AV) (A : AH), n = xs.length - i → i ≤ xs.length → I i acc A → ∃ acc' A', compGo chk tg q elt (xs.drop i) acc A = .ok acc' A' ∧ I xs.length acc' A'
  | 0, i, acc, A, hn, hi, h => by
    have e : i = xs.length := by omega
    subst e
    rw [List.drop_length]
    exact ⟨acc, A, by simp only [compGo, (hc _ _ _ (Nat.le_refl _) h).1, if_true], h⟩
  | n + 1, i, acc, A, hn, hi, h => by
    have hlt : i < xs.length := by omega
    rw [List.drop_eq_getElem_cons hlt]
    obtain ⟨c1, c2⟩ := hc _ _ _ hi h
    obtain ⟨σ2, A2, k, A3, h1, h2, h3⟩ := step i xs[i] acc A (List.getElem?_eq_getElem hlt) h
    simp only [compGo, c1, if_true, h1, Res.bind, h2]
    cases k with
    | true =>
      rw [if_pos rfl] at h3
      obtain ⟨y, A4, h4, h5⟩ := h3
      have : acc.length < sizeLine := by omega
      simp only [h4, if_pos this, if_true]
      exact comp_wp xs I hl hc step n (i + 1) _ _ (by omega) hlt h5
    | false =>
      rw [if_neg Bool.false_ne_true] at h3
      simp only [Bool.false_eq_true, if_false]
      exact comp_wp xs I hl hc step n (i + 1) _ _ (by omega) hlt h3
theorem comp_run {chk : AH → Bool} {tg : AV → AH → Res Sl} {q : Sl → AH → Res Bool} {elt : Sl → AH → Res AV} {xs : List AV} {A : AH} (I : Nat → List AV → AH → Prop) (h0 : I 0 [] A) (hl : xs.length ≤ sizeLine)
    (hc : ∀ i acc A, i ≤ xs.length → I i acc A → chk A = true ∧ acc.length ≤ i)
    (step : ∀ i x acc A, xs[i]? = some x → I i acc A → ∃ σ2 A2 k A3, tg x A = .ok σ2 A2 ∧ q σ2 A2 = .ok k A3 ∧ (if k = true then ∃ y A4, elt σ2 A3 = .ok y A4 ∧ I (i + 1) (acc ++ [y]) A4 else I (i + 1) acc A3)) :
    ∃ acc' A', compGo chk tg q elt xs [] A = .ok acc' A' ∧ I xs.length acc' A' := by
  have := comp_wp (chk := chk) (tg := tg) (q := q) (elt := elt) xs I hl hc step xs.length 0 [] A rfl (Nat.zero_le _) h0
  rw [List.drop_zero] at this
  exact this
/-- a comprehension that only maps -/
theorem comp_map {chk : AH → Bool} {tg : AV → AH → Res Sl} {q : Sl → AH → Res Bool} {elt : Sl → AH → Res AV} {xs : List AV} {A : AH} (f : AV → AV) (hl : xs.length ≤ sizeLine) (hc : chk A = true)
    (h : ∀ x ∈ xs, ∃ σ2, tg x A = .ok σ2 A ∧ q σ2 A = .ok true A ∧ elt σ2 A = .ok (f x) A) : compGo chk tg q elt xs [] A = .ok (xs.map f) A := by
  obtain ⟨acc, A', h1, h2⟩ := comp_wp (chk := chk) (tg := tg) (q := q) (elt := elt) xs (fun i acc A' => A' = A ∧ acc = (xs.take i).map f) hl (fun i acc A' hi ⟨e1, e2⟩ => ⟨by rw [e1]; exact hc, by rw [e2, List.length_map, List.length_take]; omega⟩) (fun i x acc A' hx ⟨e1, e2⟩ => by
    subst e1
    obtain ⟨σ2, a, b, c⟩ := h x (List.mem_of_getElem? hx)
    refine ⟨σ2, A', true, A', a, b, ?_⟩
    rw [if_pos rfl]
    exact ⟨_, _, c, rfl, by rw [e2, List.take_succ, hx]; simp⟩) xs.length 0 [] A rfl (Nat.zero_le _) ⟨rfl, rfl⟩
  rw [List.drop_zero] at h1
  rw [h1, h2.1, h2.2, List.take_length]
theorem for_wp {chk : AH → Bool} {tg : AV → Sl → AH → Res Sl} {body : Sl → AH → Out} (xs : List AV) (I : Nat → Sl → AH → Prop) (Rt : AV → AH → Prop)
    (hc : ∀ i σ A, i ≤ xs.length → I i σ A → chk A = true)
    (step : ∀ i x σ A, xs[i]? = some x → I i σ A → ∃ σ2 A2, tg x σ A = .ok σ2 A2 ∧ ((∃ σ3 A3, body σ2 A2 = .next σ3 A3 ∧ I (i + 1) σ3 A3) ∨ (∃ σ3 A3, body σ2 A2 = .cont σ3 A3 ∧ I (i + 1) σ3 A3) ∨ ∃ v A3, body σ2 A2 = .ret v A3 ∧ Rt v A3)) :
    ∀ (n i : Nat) (σ : Sl) (A : AH), n = xs.length - i → i ≤ xs.length → I i σ A → (∃ σ' A', forGo chk tg body (xs.drop i) σ A = .next σ' A' ∧ I xs.length σ' A') ∨ ∃ v A', forGo chk tg body (xs.drop i) σ A = .ret v A' ∧ Rt v A'
  | 0, i, σ, A, hn, hi, h => by
    have e : i = xs.length := by omega
    subst e
    rw [List.drop_length]
    exact .inl ⟨σ, A, by simp only [forGo, hc _ _ _ (Nat.le_refl _) h, if_true], h⟩
  | n + 1, i, σ, A, hn, hi, h => by
    have hlt : i < xs.length := by omega
    rw [List.drop_eq_getElem_cons hlt]
    have c1 := hc _ _ _ hi h
    obtain ⟨σ2, A2, h1, h3⟩ := step i xs[i] σ A (List.getElem?_eq_getElem hlt) h
    simp only [forGo, c1, if_true, h1, Res.out]
    rcases h3 with ⟨σ3, A3, h4, h5⟩ | ⟨σ3, A3, h4, h5⟩ | ⟨v, A3, h4, h5⟩
    · simp only [h4, Out.turn]
      exact for_wp xs I Rt hc step n (i + 1) _ _ (by omega) hlt h5
    · simp only [h4, Out.turn]
      exact for_wp xs I Rt hc step n (i + 1) _ _ (by omega) hlt h5
    · exact .inr ⟨v, A3, by simp only [h4, Out.turn], h5⟩
/-- a loop that always runs to its end -/
theorem for_end {chk : AH → Bool} {tg : AV → Sl → AH → Res Sl} {body : Sl → AH → Out} {xs : List AV} {σ : Sl} {A : AH} (I : Nat → Sl → AH → Prop) (h0 : I 0 σ A)
    (hc : ∀ i σ A, i ≤ xs.length → I i σ A → chk A = true)
    (step : ∀ i x σ A, xs[i]? = some x → I i σ A → ∃ σ2 A2, tg x σ A = .ok σ2 A2 ∧ ∃ σ3 A3, body σ2 A2 = .next σ3 A3 ∧ I (i + 1) σ3 A3) :
    ∃ σ' A', forGo chk tg body xs σ A = .next σ' A' ∧ I xs.length σ' A' := by
  have := for_wp (chk := chk) (tg := tg) (body := body) xs I (fun _ _ => False) hc (fun i x σ A hx h => let ⟨σ2, A2, a, b⟩ := step i x σ A hx h; ⟨σ2, A2, a, .inl b⟩) xs.length 0 σ A rfl (Nat.zero_le _) h0
  rw [List.drop_zero] at this
  rcases this with h | ⟨_, _, _, h⟩
  · exact h
  · exact h.elim
/-- a loop that asks something of each item, and leaves with False where it fails -/
theorem for_ask {chk : AH → Bool} {tg : AV → Sl → AH → Res Sl} {body : Sl → AH → Out} {xs : List AV} {σ : Sl} {A : AH} (J : Sl → Prop) (p : AV → Bool) (r : AV) (h0 : J σ) (hc : chk A = true)
    (step : ∀ x ∈ xs, ∀ σ, J σ → ∃ σ2, tg x σ A = .ok σ2 A ∧ (if p x = true then ∃ σ3, body σ2 A = .next σ3 A ∧ J σ3 else body σ2 A = .ret r A)) :
    if xs.all p = true then ∃ σ', forGo chk tg body xs σ A = .next σ' A ∧ J σ' else forGo chk tg body xs σ A = .ret r A := by
  have := for_wp (chk := chk) (tg := tg) (body := body) xs (fun i σ A' => A' = A ∧ J σ ∧ (xs.take i).all p = true) (fun v A' => v = r ∧ A' = A ∧ xs.all p = false) (fun i σ A' _ h => by rw [h.1]; exact hc) (fun i x σ A' hx ⟨e, h, ha⟩ => by
    subst e
    have hm := List.mem_of_getElem? hx
    obtain ⟨σ2, h1, h2⟩ := step x hm σ h
    refine ⟨σ2, A', h1, ?_⟩
    cases hp : p x with
    | true =>
      rw [hp, if_pos rfl] at h2
      obtain ⟨σ3, h3, h4⟩ := h2
      exact .inl ⟨σ3, A', h3, rfl, h4, by rw [List.take_succ, hx, List.all_append, ha]; simp [hp]⟩
    | false =>
      rw [hp, if_neg Bool.false_ne_true] at h2
      exact .inr (.inr ⟨r, A', h2, rfl, rfl, by
        cases e : xs.all p with
        | false => rfl
        | true => rw [List.all_eq_true.mp e x hm] at hp; cases hp⟩)) xs.length 0 σ A rfl (Nat.zero_le _) ⟨rfl, h0, rfl⟩
  rw [List.drop_zero] at this
  rcases this with ⟨σ', A', h1, rfl, h2, h3⟩ | ⟨v, A', h1, rfl, rfl, h2⟩
  · rw [List.take_length] at h3
    rw [h3, if_pos rfl]
    exact ⟨σ', h1, h2⟩
  · rw [h2, if_neg Bool.false_ne_true]
    exact h1
@[simp] theorem chk_val (xs : List AV) (A : AH) : (Itm.val xs).chk A = true := id rfl
@[simp] theorem items_val (xs : List AV) : (Itm.val xs).items = xs := id rfl
@[simp] theorem items_obj (n : Nat) (xs : List AV) : (Itm.obj n xs).items = xs := id rfl
theorem chk_obj {n : Nat} {xs : List AV} {A : AH} (h : A[n]? = some (.lst xs)) : (Itm.obj n xs).chk A = true := by
  unfold Itm.chk
  exact @decide_eq_true _ (Classical.propDecidable _) h

section
variable {c : Cfg} {t : T} {e e2 : E} {b : List S} {σ : Sl} {A : AH} {xs : List AV}
theorem forV (h : evE c e σ A = .ok (.tup xs) A) : evS c (.for_ t (.v e) b) σ A = forGo (Itm.val xs).chk (fun x σ A => evTg c t x σ A) (fun σ A => evSs c b σ A) xs σ A := by
  rw [evS_for, evI_v, h]; rfl
theorem forO {n : Nat} {A' : AH} (h : evE c e σ A = .ok (.ref n) A') (h2 : A'[n]? = some (.lst xs)) : evS c (.for_ t (.v e) b) σ A = forGo (Itm.obj n xs).chk (fun x σ A => evTg c t x σ A) (fun σ A => evSs c b σ A) xs σ A' := by
  rw [evS_for, evI_v, h]; simp only [Res.bind, h2]; rfl
theorem rng_ok {n : Nat} (hn : n < 4611686018427387904) : (-(2 ^ 62) : Int) ≤ (n : Int) ∧ (n : Int) < 2 ^ 62 := by omega
theorem rngJ {j : Int} {A' : AH} (h : evE c e σ A = .ok (.int j) A') (hn : (-(2 ^ 62) : Int) ≤ j ∧ j < 2 ^ 62) : evI c (.range1 e) σ A = .ok (.val ((List.range j.toNat).map fun (k : Nat) => AV.int k)) A' := by
  rw [evI_range1, h]
  exact if_pos hn
theorem rngI {n : Nat} {A' : AH} (h : evE c e σ A = .ok (.int n) A') (hn : n < 4611686018427387904) : evI c (.range1 e) σ A = .ok (.val ((List.range n).map fun (k : Nat) => AV.int k)) A' := by
  have q := rngJ h (rng_ok hn)
  rw [Int.toNat_natCast] at q
  exact q
theorem forN {n : Nat} (h : evE c e σ A = .ok (.int n) A) (hn : n < 4611686018427387904) : evS c (.for_ t (.range1 e) b) σ A = forGo (Itm.val ((List.range n).map fun (k : Nat) => AV.int k)).chk (fun x σ A => evTg c t x σ A) (fun σ A => evSs c b σ A) ((List.range n).map fun (k : Nat) => AV.int k) σ A := by
  rw [evS_for, rngI h hn, Res.out, items_val]
variable {own : List Nat} {q elt : E}
theorem compV (h : evE c e σ A = .ok (.tup xs) A) : evL c (.comp own (.v e) t q elt) σ A = compGo (Itm.val xs).chk (fun x A => evTg c t x (wipeS σ own) A) (fun σ A => (evE c q σ A).bind tru) (fun σ A => evE c elt σ A) xs [] A := by
  rw [evL_comp, evI_v, h]; rfl
theorem compFl (h : evE c e σ A = .ok (.fl xs) A) : evL c (.comp own (.v e) t q elt) σ A = compGo (Itm.val xs).chk (fun x A => evTg c t x (wipeS σ own) A) (fun σ A => (evE c q σ A).bind tru) (fun σ A => evE c elt σ A) xs [] A := by
  rw [evL_comp, evI_v, h]; rfl
theorem compO {n : Nat} {A' : AH} (h : evE c e σ A = .ok (.ref n) A') (h2 : A'[n]? = some (.lst xs)) : evL c (.comp own (.v e) t q elt) σ A = compGo (Itm.obj n xs).chk (fun x A => evTg c t x (wipeS σ own) A) (fun σ A => (evE c q σ A).bind tru) (fun σ A => evE c elt σ A) xs [] A' := by
  rw [evL_comp, evI_v, h]; simp only [Res.bind, h2]; rfl
theorem compN {n : Nat} {A' : AH} (h : evE c e σ A = .ok (.int n) A') (hn : n < 4611686018427387904) : evL c (.comp own (.range1 e) t q elt) σ A = compGo (Itm.val ((List.range n).map fun (k : Nat) => AV.int k)).chk (fun x A => evTg c t x (wipeS σ own) A) (fun σ A => (evE c q σ A).bind tru) (fun σ A => evE c elt σ A) ((List.range n).map fun (k : Nat) => AV.int k) [] A' := by
  rw [evL_comp, rngI h hn, Res.bind, items_val]
end
/-- a value that may be asked for its type -/
inductive Good (A : AH) : AV → Prop
  | non : Good A .non
  | bl (b : Bool) : Good A (.bl b)
  | int (i : Int) : Good A (.int i)
  | str (x : Str) : Good A (.str x)
  | fl (xs : List AV) : Good A (.fl xs)
  | ref {n : Nat} (h : n < A.length) : Good A (.ref n)
  | tup {xs : List AV} (h : ∀ x ∈ xs, Good A x) (hl : xs.length ≤ sizeLine) : Good A (.tup xs)
def isI : AV → Bool | .int _ => true | _ => false
def isB : AV → Bool | .bl _ => true | _ => false
def isT : AV → Bool | .tup _ => true | _ => false
def isStr : AV → Bool | .str _ => true | _ => false
theorem Good.mono {A A' : AH} (h : A.length ≤ A'.length) {v : AV} (g : Good A v) : Good A' v := by
  induction g with
  | non => exact .non
  | bl b => exact .bl b
  | int i => exact .int i
  | str x => exact .str x
  | fl xs => exact .fl xs
  | ref q => exact .ref (Nat.lt_of_lt_of_le q h)
  | tup _ hl ih => exact .tup ih hl
section
variable {A : AH} {x : AV}
theorem Good.ty (g : Good A x) : ∃ t, tyName A x = some t ∧ (t == "int") = isI x ∧ (t == "bool") = isB x ∧ (t == "tuple") = isT x ∧ (t == "str") = isStr x := by
  cases g with
  | ref h =>
    rename_i n
    have e : A[n]? = some A[n] := List.getElem?_eq_getElem h
    simp only [tyName, e]
    cases A[n] <;> exact ⟨_, rfl, by simp [isI], by simp [isB], by simp [isT], by simp [isStr]⟩
  | _ => exact ⟨_, rfl, by simp [isI], by simp [isB], by simp [isT], by simp [isStr]⟩
theorem isA_int (t : String) : isA t "int" = some (t == "int" || t == "bool") := by unfold isA; rw [if_pos rfl]
theorem isA_bool (t : String) : isA t "bool" = some (t == "bool") := by unfold isA; rw [if_neg (by decide), if_pos (by simp)]
theorem isA_tup (t : String) : isA t "tuple" = some (t == "tuple") := by unfold isA; rw [if_neg (by decide), if_pos (by simp)]
theorem isA_str (t : String) : isA t "str" = some (t == "str") := by unfold isA; rw [if_neg (by decide), if_pos (by simp)]
theorem Good.i (g : Good A x) : aBif .isinst [x, .ty "int"] A = .ok (.bl (isI x || isB x)) A := by
  obtain ⟨t, h, h1, h2, h3, h4⟩ := g.ty
  simp only [aBif, h, isA_int, h1, h2]
theorem Good.b (g : Good A x) : aBif .isinst [x, .ty "bool"] A = .ok (.bl (isB x)) A := by
  obtain ⟨t, h, h1, h2, h3, h4⟩ := g.ty
  simp only [aBif, h, isA_bool, h2]
theorem Good.t (g : Good A x) : aBif .isinst [x, .ty "tuple"] A = .ok (.bl (isT x)) A := by
  obtain ⟨t, h, h1, h2, h3, h4⟩ := g.ty
  simp only [aBif, h, isA_tup, h3]
theorem Good.s (g : Good A x) : aBif .isinst [x, .ty "str"] A = .ok (.bl (isStr x)) A := by
  obtain ⟨t, h, h1, h2, h3, h4⟩ := g.ty
  simp only [aBif, h, isA_str, h4]
theorem Good.all {xs : List AV} (g : Good A (.tup xs)) : ∀ z ∈ xs, Good A z := by
  cases g with
  | tup q _ => exact q
theorem Good.len {xs : List AV} (g : Good A (.tup xs)) : xs.length ≤ sizeLine := by
  cases g with
  | tup _ q => exact q
theorem Good.at {xs : List AV} {i : Nat} (g : Good A (.tup xs)) (h : xs[i]? = some x) : Good A x := by
  cases g with
  | tup q _ => exact q x (List.mem_of_getElem? h)
end
@[simp] theorem len_tup (xs : List AV) (A : AH) : aBif .len [.tup xs] A = .ok (.int xs.length) A := id rfl
theorem ixTup (xs : List AV) (i : Int) (A : AH) : aIx (.tup xs) (.int i) A = atI xs i := rfl
@[simp] theorem isT_tup (xs : List AV) : isT (.tup xs) = true := id rfl
theorem isT_cases {x : AV} (h : isT x = true) : ∃ xs, x = .tup xs := by cases x <;> simp [isT] at h; exact ⟨_, rfl⟩
theorem isI_cases {x : AV} (h : isI x = true) : ∃ i, x = .int i := by cases x <;> simp [isI] at h; exact ⟨_, rfl⟩
end Ev


set_option linter.all false
set_option maxRecDepth 100000
set_option maxHeartbeats 4000000
namespace Ev
open PySem L2

/-! ### whole numbers, pairs, books: what the program's and the laws' own questions answer of any value -/
theorem atI0 {α : Type} (x : α) (r : List α) : atI (x :: r) 0 = some x := atI_nat (j := 0) rfl
theorem atI1 {α : Type} (x y : α) (r : List α) : atI (x :: y :: r) 1 = some y := atI_nat (j := 1) rfl
theorem two_cases {xs : List AV} (h : xs.length = 2) : ∃ a b, xs = [a, b] := by
  match xs, h with
  | [a, b], _ => exact ⟨a, b, rfl⟩
def bWhole : List S := [.ret (.and (.bif .isinst [(.var 0), (.lit (.ty "int"))]) (.not (.bif .isinst [(.var 0), (.lit (.ty "bool"))])))]
def bPair : List S := [.if_ (.or (.not (.bif .isinst [(.var 0), (.lit (.ty "tuple"))])) (.cmp .ne (.bif .len [(.var 0)]) (.lit (.int 2)))) [.ret (.lit (.bl false))] [],
    .if_ (.or (.not (.call "is_whole" [(.ix (.var 0) (.lit (.int 0)))] [])) (.not (.call "is_whole" [(.ix (.var 0) (.lit (.int 1)))] []))) [.ret (.lit (.bl false))] [],
    .ret (.and (.chain .le .lt (.lit (.int 0)) (.ix (.var 0) (.lit (.int 0))) (.var 1)) (.chain .le .le (.neg (.glob "MOST_COST")) (.ix (.var 0) (.lit (.int 1))) (.glob "MOST_COST")))]
def bInts : List S := [.ret (.and (.bif .isinst [(.var 0), (.lit (.ty "tuple"))]) (.lf .all (.comp [1] (.v (.var 0)) (.name 1) (.lit (.bl true)) (.call "_law_is_int" [(.var 1)] []))))]
def fnIs (c : Cfg) (f : Str) (p : AV → Bool) : Prop := ∀ A x, Good A x → c.fn f [x] A = .ok (.bl (p x)) A
theorem whole_ev (c : Cfg) {A : AH} {x : AV} (g : Good A x) : (evSs c bWhole [some x] A).fin = .ok (.bl (isI x)) A := by
  simp [bWhole, g.i, g.b]
  cases x <;> simp [isI, isB]
def pairB (n : Int) : AV → Bool
  | .tup [.int a, .int b] => decide (0 ≤ a) && decide (a < n) && decide (-9999 ≤ b) && decide (b ≤ 9999)
  | _ => false
def rowB (w : Nat) (n : Int) : AV → Bool
  | .tup xs => xs.length == w && xs.all (pairB n)
  | _ => false
def bookB : AV → Bool
  | .tup (.tup r :: rs) => decide (rs.length + 1 ≤ 24) && (decide (1 ≤ r.length) && decide (r.length ≤ 6)) && (AV.tup r :: rs).all (rowB r.length (rs.length + 1))
  | _ => false
theorem pair_ev (c : Cfg) {A : AH} {x : AV} (g : Good A x) (n : Int) (hw : fnIs c "is_whole" isI) (hm : c.gl "MOST_COST" = some (.int 9999)) : (evSs c bPair [some x, some (.int n)] A).fin = .ok (.bl (pairB n x)) A := by
  cases ht : isT x with
  | false =>
    simp [bPair, g.t, ht]
    cases x <;> simp_all [isT, pairB]
  | true =>
    obtain ⟨xs, rfl⟩ := isT_cases ht
    by_cases hl : xs.length = 2
    · obtain ⟨a, b, rfl⟩ := two_cases hl
      have ga := g.at (i := 0) rfl
      have gb := g.at (i := 1) rfl
      have wa := hw A a ga
      have wb := hw A b gb
      cases ha : isI a with
      | false =>
        simp [bPair, g.t, ixTup, atI0, atI1, wa, wb, hm, ha]
        cases a <;> first | rfl | cases ha
      | true =>
        obtain ⟨i, rfl⟩ := isI_cases ha
        cases hb : isI b with
        | false =>
          simp [bPair, g.t, ixTup, atI0, atI1, wa, wb, hm, ha, hb]
          cases b <;> first | rfl | cases hb
        | true =>
          obtain ⟨j, rfl⟩ := isI_cases hb
          simp [bPair, g.t, ixTup, atI0, atI1, wa, wb, hm, ha, hb]
          by_cases h1 : 0 ≤ i <;> by_cases h2 : i < n <;> by_cases h3 : -9999 ≤ j <;> simp [h1, h2, h3, pairB, hm, ixTup, atI0, atI1]
    · have hl' : ¬((xs.length : Int) = 2) := by omega
      simp [bPair, g.t, hl']
      match xs, hl with
      | [], _ => rfl
      | [_], _ => simp [pairB]
      | [_, _], h => exact absurd rfl h
      | _ :: _ :: _ :: _, _ => simp [pairB]
theorem boolsOf_map (p : AV → Bool) : ∀ xs : List AV, boolsOf (xs.map fun x => .bl (p x)) = some (xs.map p)
  | [] => rfl
  | x :: r => by simp only [List.map_cons, boolsOf, boolsOf_map p r, Option.map_some]
def intsB : AV → Bool | .tup xs => xs.all isI | _ => false
theorem ints_ev (c : Cfg) {A : AH} {x : AV} (g : Good A x) (hw : fnIs c "_law_is_int" isI) : (evSs c bInts [some x, none] A).fin = .ok (.bl (intsB x)) A := by
  cases ht : isT x with
  | false =>
    simp [bInts, g.t, ht]
    cases x <;> first | rfl | cases ht
  | true =>
    obtain ⟨xs, rfl⟩ := isT_cases ht
    have e : evL c (.comp [1] (.v (.var 0)) (.name 1) (.lit (.bl true)) (.call "_law_is_int" [(.var 1)] [])) [some (.tup xs), none] A = .ok (xs.map fun x => .bl (isI x)) A := by
      rw [compV (xs := xs) rfl]
      refine comp_map _ g.len rfl fun x hx => ⟨_, rfl, rfl, ?_⟩
      have gx : Good A x := by
        cases g with
        | tup q _ => exact q x hx
      simp [wipeS, hw A x gx]
    simp [bInts, g.t, e, aLF, boolsOf_map, intsB, List.all_map]
def bBook (e24 e6 : E) (ib : List S) : List S := [.if_ (.or (.not (.bif .isinst [(.var 0), (.lit (.ty "tuple"))])) (.not (.chain .le .le (.lit (.int 1)) (.bif .len [(.var 0)]) e24))) [.ret (.lit (.bl false))] [],
    .if_ (.or (.not (.bif .isinst [(.ix (.var 0) (.lit (.int 0))), (.lit (.ty "tuple"))])) (.not (.chain .le .le (.lit (.int 1)) (.bif .len [(.ix (.var 0) (.lit (.int 0)))]) e6))) [.ret (.lit (.bl false))] [],
    .for_ (.name 1) (.v (.var 0)) [.if_ (.or (.not (.bif .isinst [(.var 1), (.lit (.ty "tuple"))])) (.cmp .ne (.bif .len [(.var 1)]) (.bif .len [(.ix (.var 0) (.lit (.int 0)))]))) [.ret (.lit (.bl false))] [],
      .for_ (.name 2) (.v (.var 1)) ib],
    .ret (.lit (.bl true))]
/-- a book's question, over what it asks of a pair -/
theorem book_ev (c : Cfg) {A : AH} {x : AV} (e24 e6 : E) (ib : List S) (h24 : ∀ σ, evE c e24 σ A = .ok (.int 24) A) (h6 : ∀ σ, evE c e6 σ A = .ok (.int 6) A) (g : Good A x)
    (hin : ∀ X zs z, Good A z → evSs c ib [some (.tup X), some (.tup zs), some z] A = if pairB X.length z = true then .next [some (.tup X), some (.tup zs), some z] A else .ret (.bl false) A) :
    (evSs c (bBook e24 e6 ib) [some x, none, none] A).fin = .ok (.bl (bookB x)) A := by
  cases ht : isT x with
  | false =>
    simp [bBook, g.t, ht]
    cases x <;> first | rfl | cases ht
  | true =>
    obtain ⟨xs, rfl⟩ := isT_cases ht
    match xs with
    | [] => simp [bBook, g.t, h24, bookB]
    | x0 :: xr =>
      have g0 := g.at (i := 0) rfl
      have h1' : (1 : Int) ≤ (xr.length : Int) + 1 := by omega
      by_cases hl : xr.length + 1 ≤ 24
      · have hl' : ((xr.length : Int) + 1 ≤ 24) := by omega
        cases h0 : isT x0 with
        | false =>
          simp [bBook, g.t, h24, hl', h1', ixTup, atI0, g0.t, h0]
          cases x0 <;> first | rfl | cases h0
        | true =>
          obtain ⟨ys, rfl⟩ := isT_cases h0
          by_cases hy : 1 ≤ ys.length ∧ ys.length ≤ 6
          · have hy1 : (1 : Int) ≤ (ys.length : Int) := by omega
            have hy2 : (ys.length : Int) ≤ 6 := by omega
            have gs : ∀ z ∈ AV.tup ys :: xr, Good A z := by
              cases g with
              | tup q _ => exact q
            have e0 : bookB (.tup (.tup ys :: xr)) = (AV.tup ys :: xr).all (rowB ys.length (AV.tup ys :: xr).length) := by simp [bookB, hl, hy.1, hy.2]
            rw [e0]
            generalize hX : AV.tup ys :: xr = X at gs g ht
            have hlen : X.length = xr.length + 1 := by rw [← hX]; rfl
            have hix : aIx (.tup X) (.int 0) A = some (.tup ys) := by rw [← hX]; exact atI0 _ _
            have inner : ∀ zs o, (∀ z ∈ zs, Good A z) → (if zs.all (pairB X.length) = true then ∃ o', evS c (.for_ (.name 2) (.v (.var 1)) ib) [some (.tup X), some (.tup zs), o] A = .next [some (.tup X), some (.tup zs), o'] A
                else evS c (.for_ (.name 2) (.v (.var 1)) ib) [some (.tup X), some (.tup zs), o] A = .ret (.bl false) A) := fun zs o gz => by
              rw [forV (xs := zs) rfl]
              have := for_ask (chk := (Itm.val zs).chk) (tg := fun x σ A => evTg c (.name 2) x σ A) (body := fun σ A => evSs c ib σ A) (xs := zs) (σ := [some (.tup X), some (.tup zs), o]) (A := A)
                (fun σ => ∃ o, σ = [some (.tup X), some (.tup zs), o]) (pairB X.length) (.bl false) ⟨_, rfl⟩ rfl (fun z hz σ hσ => by
                  obtain ⟨o, rfl⟩ := hσ
                  refine ⟨_, rfl, ?_⟩
                  have hp := hin X zs z (gz z hz)
                  cases hb : pairB X.length z with
                  | true => rw [if_pos rfl]; exact ⟨_, by rw [hb, if_pos rfl] at hp; exact hp, _, rfl⟩
                  | false => rw [if_neg Bool.false_ne_true]; rw [hb, if_neg Bool.false_ne_true] at hp; exact hp)
              split at this
              · rename_i hq
                obtain ⟨σ', h1, o', rfl⟩ := this
                rw [if_pos hq]
                exact ⟨o', h1⟩
              · rename_i hq
                rw [if_neg hq]
                exact this
            have outer : if X.all (rowB ys.length X.length) = true then ∃ σ', evS c (.for_ (.name 1) (.v (.var 0)) [.if_ (.or (.not (.bif .isinst [(.var 1), (.lit (.ty "tuple"))])) (.cmp .ne (.bif .len [(.var 1)]) (.bif .len [(.ix (.var 0) (.lit (.int 0)))]))) [.ret (.lit (.bl false))] [],
                .for_ (.name 2) (.v (.var 1)) ib]) [some (.tup X), none, none] A = .next σ' A
                else evS c (.for_ (.name 1) (.v (.var 0)) [.if_ (.or (.not (.bif .isinst [(.var 1), (.lit (.ty "tuple"))])) (.cmp .ne (.bif .len [(.var 1)]) (.bif .len [(.ix (.var 0) (.lit (.int 0)))]))) [.ret (.lit (.bl false))] [],
                .for_ (.name 2) (.v (.var 1)) ib]) [some (.tup X), none, none] A = .ret (.bl false) A := by
              rw [forV (xs := X) rfl]
              have := for_ask (chk := (Itm.val X).chk) (tg := fun x σ A => evTg c (.name 1) x σ A) (body := fun σ A => evSs c [.if_ (.or (.not (.bif .isinst [(.var 1), (.lit (.ty "tuple"))])) (.cmp .ne (.bif .len [(.var 1)]) (.bif .len [(.ix (.var 0) (.lit (.int 0)))]))) [.ret (.lit (.bl false))] [],
                .for_ (.name 2) (.v (.var 1)) ib] σ A) (xs := X) (σ := [some (.tup X), none, none]) (A := A)
                (fun σ => ∃ o o2, σ = [some (.tup X), o, o2]) (rowB ys.length X.length) (.bl false) ⟨_, _, rfl⟩ rfl (fun z hz σ hσ => by
                  obtain ⟨o, o2, rfl⟩ := hσ
                  refine ⟨_, rfl, ?_⟩
                  have gz := gs z hz
                  cases hb : isT z with
                  | false =>
                    have : rowB ys.length X.length z = false := by cases z <;> first | rfl | cases hb
                    rw [this, if_neg Bool.false_ne_true]
                    simp [gz.t, hb]
                  | true =>
                    obtain ⟨zs, rfl⟩ := isT_cases hb
                    by_cases hzl : zs.length = ys.length
                    · have hzl' : (zs.length : Int) = (ys.length : Int) := by omega
                      have := inner zs o2 (by cases gz with | tup q _ => exact q)
                      by_cases hq : zs.all (pairB X.length) = true
                      · have hr : rowB ys.length X.length (.tup zs) = true := by simp only [rowB, hzl, beq_self_eq_true, Bool.true_and]; exact hq
                        rw [hr, if_pos rfl]
                        rw [if_pos hq] at this
                        obtain ⟨o', h⟩ := this
                        exact ⟨[some (.tup X), some (.tup zs), o'], by simp [gz.t, hix, hzl', h], _, _, rfl⟩
                      · have hr : rowB ys.length X.length (.tup zs) = false := by simp only [rowB, hzl, beq_self_eq_true, Bool.true_and]; simpa using hq
                        rw [hr, if_neg Bool.false_ne_true]
                        rw [if_neg hq] at this
                        simp [gz.t, hix, hzl', this]
                    · have hzl' : ¬((zs.length : Int) = (ys.length : Int)) := by omega
                      have hr : rowB ys.length X.length (.tup zs) = false := by simp [rowB, hzl]
                      rw [hr, if_neg Bool.false_ne_true]
                      simp [gz.t, hix, hzl'])
              split at this
              · rename_i hq
                obtain ⟨σ', h1, _⟩ := this
                rw [if_pos hq]
                exact ⟨σ', h1⟩
              · rename_i hq
                rw [if_neg hq]
                exact this
            have gx0 : Good A (.tup ys) := g0
            have hl2 : (X.length : Int) ≤ 24 := by omega
            have hl3 : (1 : Int) ≤ (X.length : Int) := by omega
            by_cases hq : X.all (rowB ys.length X.length) = true
            · rw [if_pos hq] at outer
              obtain ⟨σ', h⟩ := outer
              simp [bBook, g.t, h24, h6, hl2, hl3, hix, gx0.t, hy1, hy2, h, hq]
            · rw [if_neg hq] at outer
              simp only [Bool.not_eq_true] at hq
              simp [bBook, g.t, h24, h6, hl2, hl3, hix, gx0.t, hy1, hy2, outer, hq]
          · have e0 : bookB (.tup (.tup ys :: xr)) = false := by
              have : (decide (1 ≤ ys.length) && decide (ys.length ≤ 6)) = false := by
                rw [← Bool.decide_and]; exact decide_eq_false hy
              simp only [bookB, this, Bool.and_false, Bool.false_and]
            rw [e0]
            by_cases hy1 : (1 : Int) ≤ (ys.length : Int)
            · have hy2 : ¬((ys.length : Int) ≤ 6) := by omega
              simp [bBook, g.t, h24, h6, hl', h1', ixTup, atI0, g0.t, hy1, hy2]
            · simp [bBook, g.t, h24, h6, hl', h1', ixTup, atI0, g0.t, hy1]
      · have hl' : ¬((xr.length : Int) + 1 ≤ 24) := by omega
        simp [bBook, g.t, h24, hl', h1']
        cases x0 <;> simp [bookB, hl]
end Ev


set_option linter.all false
set_option maxRecDepth 100000
set_option maxHeartbeats 4000000
namespace Ev
open PySem L2

/-! ### what the laws draw with -/
def bBegin : List S := [.ret (.new (.disp [(.new (.comp [1] (.v (.var 0)) (.name 1) (.lit (.bl true)) (.bif .int_ [(.var 1)]))), (.lit (.int 0)), (.lit (.int 0)), (.lit (.int 7)), (.lit (.int 3))]))]
def bPick : List S := [.ret (.ix (.var 1) (.call "_law_draw" [(.var 0), (.bif .len [(.var 1)])] []))]
def bRare : List S := [.ret (.cmp .eq (.call "_law_draw" [(.var 0), (.var 1)] []) (.bin .fdiv (.var 1) (.lit (.int 2))))]
def drawIs (c : Cfg) : Prop := ∀ A d (many : Int), Dr A d → 0 < many → many < 2 ^ 64 → ∃ v A', c.fn "_law_draw" [.ref d, .int many] A = .ok (.int v) A' ∧ 0 ≤ v ∧ v < many ∧ Fr d A A'
def pickIs (c : Cfg) : Prop := ∀ A d row xs, Dr A d → seqOf A row = some xs → row ≠ .ref d → xs ≠ [] → xs.length < 2 ^ 62 → ∃ x A', c.fn "_law_pick" [.ref d, row] A = .ok x A' ∧ x ∈ xs ∧ Fr d A A'
def rareIs (c : Cfg) : Prop := ∀ A d (many : Int), Dr A d → 0 < many → many < 2 ^ 64 → ∃ b A', c.fn "_law_rare" [.ref d, .int many] A = .ok (.bl b) A' ∧ Fr d A A'
theorem small_log {many : Int} (h : 0 < many) (h2 : many < 2 ^ 64) : many.natAbs.log2 < 9000 := by
  have h3 : many.natAbs < 2 ^ 64 := by omega
  have : many.natAbs.log2 < 64 := (Nat.log2_lt (by omega)).mpr h3
  omega
theorem draw_ev2 (c : Cfg) {A : AH} {d : Nat} {many : Int} (h : Dr A d) (hm : 0 < many) (hl : many < 2 ^ 64) :
    ∃ v A', (evSs c bDraw [some (.ref d), some (.int many), none, none, none] A).fin = .ok (.int v) A' ∧ 0 ≤ v ∧ v < many ∧ Fr d A A' := draw_ev c h hm (small_log hm hl)
theorem begin_ev (c : Cfg) {A : AH} {ns : List Int} (hl : ns.length ≤ sizeLine) : ∃ A', (evSs c bBegin [some (.fl (ns.map .int)), none] A).fin = .ok (.ref (A.length + 1)) A' ∧ Dr A' (A.length + 1) := by
  have e : evL c (.comp [1] (.v (.var 0)) (.name 1) (.lit (.bl true)) (.bif .int_ [(.var 1)])) [some (.fl (ns.map .int)), none] A = .ok (ns.map .int) A := by
    rw [compFl (xs := ns.map .int) rfl]
    have := comp_map (chk := (Itm.val (ns.map AV.int)).chk) (tg := fun x A => evTg c (.name 1) x (wipeS [some (.fl (ns.map .int)), none] [1]) A) (q := fun σ A => (evE c (.lit (.bl true)) σ A).bind tru) (elt := fun σ A => evE c (.bif .int_ [(.var 1)]) σ A) (xs := ns.map AV.int) (A := A) id (by simpa using hl) rfl (fun x hx => by
      obtain ⟨i, _, rfl⟩ := List.mem_map.mp hx
      exact ⟨_, rfl, rfl, by simp [wipeS]⟩)
    rw [List.map_id] at this
    exact this
  have h5 : 5 ≤ sizeLine := by rw [sizeLine_eq]; decide
  refine ⟨A ++ [.lst (ns.map .int), .lst [.ref A.length, .int 0, .int 0, .int 7, .int 3]], ?_, ⟨A.length, ns, 0, 0, 7, 3, ?_, ?_, by omega, by omega⟩⟩
  · simp [bBegin, e, h5]
  · rw [List.getElem?_append_right (by omega)]
    simp
  · rw [List.getElem?_append_right (by omega)]
    simp
theorem len_seq {A : AH} {x : AV} {xs : List AV} (h : seqOf A x = some xs) : aBif .len [x] A = .ok (.int xs.length) A := by
  cases x with
  | str z => cases h
  | tup ys => cases h; rfl
  | fl ys => cases h; rfl
  | _ => simp only [aBif, h]
theorem ix_seq {A : AH} {x : AV} {xs : List AV} {i : Int} (h : seqOf A x = some xs) : aIx x (.int i) A = atI xs i := by
  cases x with
  | str z => cases h
  | _ => simp only [aIx, h, Option.bind_some]
theorem Fr.seq {d : Nat} {A A' : AH} (F : Fr d A A') {x : AV} {xs : List AV} (h : seqOf A x = some xs) (hd : x ≠ .ref d) : seqOf A' x = some xs := by
  cases x with
  | ref n =>
    have hn : n ≠ d := fun e => hd (by rw [e])
    simp only [seqOf] at h ⊢
    split at h
    · rename_i e
      cases h
      rw [F.old n (List.getElem?_eq_some_iff.mp e).1 hn, e]
    · cases h
  | _ => exact h
theorem atI_mem {xs : List AV} {v : Int} (h0 : 0 ≤ v) (h1 : v < xs.length) : ∃ x, atI xs v = some x ∧ x ∈ xs := by
  obtain ⟨n, rfl⟩ : ∃ n : Nat, v = n := ⟨v.toNat, by omega⟩
  have h2 : n < xs.length := by omega
  exact ⟨xs[n], atI_nat (List.getElem?_eq_getElem h2), List.getElem_mem h2⟩
theorem pick_ev (c : Cfg) (D : drawIs c) {A : AH} {d : Nat} {row : AV} {xs : List AV} (h : Dr A d) (hs : seqOf A row = some xs) (hd : row ≠ .ref d) (hx : xs ≠ []) (hl : xs.length < 2 ^ 62) :
    ∃ x A', (evSs c bPick [some (.ref d), some row] A).fin = .ok x A' ∧ x ∈ xs ∧ Fr d A A' := by
  have h0 : 0 < xs.length := List.length_pos_iff.mpr hx
  obtain ⟨v, A', e, h1, h2, F⟩ := D A d xs.length h (by omega) (by omega)
  obtain ⟨x, h3, h4⟩ := atI_mem h1 h2
  refine ⟨x, A', ?_, h4, F⟩
  simp [bPick, len_seq hs, e, ix_seq (F.seq hs hd), h3]
theorem rare_ev (c : Cfg) (D : drawIs c) {A : AH} {d : Nat} {many : Int} (h : Dr A d) (h0 : 0 < many) (hl : many < 2 ^ 64) :
    ∃ b A', (evSs c bRare [some (.ref d), some (.int many)] A).fin = .ok (.bl b) A' ∧ Fr d A A' := by
  obtain ⟨v, A', e, h1, h2, F⟩ := D A d many h h0 hl
  refine ⟨decide (v = many / 2), A', ?_, F⟩
  simp [bRare, e, fdiv_int _ (i := many) (j := 2) (by decide) (by decide)]
/-! ### a drawn book -/
def pairV (p : Int × Int) : AV := .tup [.int p.1, .int p.2]
def rowV (r : List (Int × Int)) : AV := .tup (r.map pairV)
def bookV (bk : List (List (Int × Int))) : AV := .tup (bk.map rowV)
structure BkOk (bk : List (List (Int × Int))) (kinds states : Nat) (lo hi : Int) : Prop where
  len : bk.length = states
  row : ∀ r ∈ bk, r.length = kinds ∧ ∀ p ∈ r, 0 ≤ p.1 ∧ p.1 < states ∧ lo ≤ p.2 ∧ p.2 ≤ hi
def cRow : L := .comp [8] (.range1 (.var 1)) (.name 8) (.lit (.bl true)) (.tup [(.call "_law_draw" [(.var 0), (.var 2)] []), (.bin .add (.var 3) (.call "_law_draw" [(.var 0), (.bin .add (.bin .sub (.var 4) (.var 3)) (.lit (.int 1)))] []))])
def bLawBook : List S := [.asg (.name 5) (.new (.disp [])),
    .for_ (.name 6) (.range1 (.var 2)) [.asg (.name 7) (.new cRow),
      .expr (.mth .append (.var 5) [(.bif .tupof [(.var 7)])])],
    .ret (.bif .tupof [(.var 5)])]
theorem range_get {n i : Nat} {x : AV} (h : ((List.range n).map fun (k : Nat) => AV.int k)[i]? = some x) : i < n ∧ x = .int i := by
  rw [List.getElem?_map] at h
  obtain ⟨j, h1, h2⟩ := Option.map_eq_some_iff.mp h
  have h3 := List.getElem?_eq_some_iff.mp h1
  obtain ⟨h4, h5⟩ := h3
  rw [List.getElem_range] at h5
  rw [List.length_range] at h4
  exact ⟨h4, by rw [← h2, ← h5]⟩
theorem size_big {n : Nat} (h : n ≤ 1000000) : n < sizeLine := by rw [sizeLine_eq]; omega
theorem crow_ev (c : Cfg) (D : drawIs c) {A : AH} {d kinds states : Nat} {low high : Int} {o5 o6 o7 o8 : Option AV} (h : Dr A d) (hk : kinds ≤ 1000) (hs0 : 0 < states) (hs : states ≤ 1000) (hlh : low ≤ high) (hb : high - low < 2 ^ 40) :
    ∃ (r : List (Int × Int)) (A' : AH), evL c cRow [some (.ref d), some (.int kinds), some (.int states), some (.int low), some (.int high), o5, o6, o7, o8] A = .ok (r.map pairV) A' ∧ Fr d A A' ∧ r.length = kinds ∧ ∀ p ∈ r, 0 ≤ p.1 ∧ p.1 < states ∧ low ≤ p.2 ∧ p.2 ≤ high := by
  unfold cRow
  rw [compN (n := kinds) (A' := A) (by simp) (by omega)]
  have lr : ((List.range kinds).map fun (k : Nat) => AV.int k).length = kinds := by simp
  obtain ⟨acc, A', h1, F, r, h2, h3, h4⟩ := comp_run (chk := (Itm.val ((List.range kinds).map fun (k : Nat) => AV.int k)).chk)
    (tg := fun x A => evTg c (.name 8) x (wipeS [some (.ref d), some (.int kinds), some (.int states), some (.int low), some (.int high), o5, o6, o7, o8] [8]) A) (q := fun σ A => (evE c (.lit (.bl true)) σ A).bind tru)
    (elt := fun σ A => evE c (.tup [(.call "_law_draw" [(.var 0), (.var 2)] []), (.bin .add (.var 3) (.call "_law_draw" [(.var 0), (.bin .add (.bin .sub (.var 4) (.var 3)) (.lit (.int 1)))] []))]) σ A)
    (xs := (List.range kinds).map fun (k : Nat) => AV.int k) (A := A)
    (fun i acc A' => Fr d A A' ∧ ∃ r : List (Int × Int), acc = r.map pairV ∧ r.length = i ∧ ∀ p ∈ r, 0 ≤ p.1 ∧ p.1 < states ∧ low ≤ p.2 ∧ p.2 ≤ high)
    ⟨Fr.refl h, [], rfl, rfl, fun p hp => by cases hp⟩ (by rw [lr]; exact Nat.le_of_lt (size_big (by omega)))
    (fun i acc A' _ ⟨_, r, e, hl, _⟩ => ⟨rfl, by rw [e, List.length_map, hl]; exact Nat.le_refl _⟩)
    (fun i x acc A1 hx ⟨F, r, e, hl, hr⟩ => by
      obtain ⟨v, A2, e1, p1, p2, F2⟩ := D A1 d states F.dr (by omega) (by omega)
      obtain ⟨u, A3, e2, q1, q2, F3⟩ := D A2 d (high - low + 1) F2.dr (by omega) (by omega)
      refine ⟨_, _, true, A1, rfl, rfl, ?_⟩
      rw [if_pos rfl]
      have h2 : 2 ≤ sizeLine := Nat.le_of_lt (size_big (by omega))
      refine ⟨.tup [.int v, .int (low + u)], A3, by simp [wipeS, e1, e2, h2], (F.trans F2).trans F3, r ++ [(v, low + u)], by rw [e]; simp [pairV], by simp [hl], fun p hp => ?_⟩
      rcases List.mem_append.mp hp with hp | hp
      · exact hr p hp
      · rw [List.mem_singleton.mp hp]
        exact ⟨p1, p2, by show low ≤ low + u; omega, by show low + u ≤ high; omega⟩)
  rw [lr] at h3
  exact ⟨r, A', by rw [← h2]; exact h1, F, h3, h4⟩
theorem append_ref {A : AH} {n : Nat} {ys : List AV} {x : AV} (h : A[n]? = some (.lst ys)) (hl : ys.length < sizeLine) : aMth .append (.ref n) [x] A = .ok .non (A.set n (.lst (ys ++ [x]))) := by
  simp only [aMth, h, if_pos hl]
theorem tupof_seq {A : AH} {x : AV} {xs : List AV} (h : seqOf A x = some xs) : aBif .tupof [x] A = .ok (.tup xs) A := by simp only [aBif, h]
theorem seq_ref {A : AH} {n : Nat} {xs : List AV} (h : A[n]? = some (.lst xs)) : seqOf A (.ref n) = some xs := by simp only [seqOf, h]
theorem lbook_ev (c : Cfg) (D : drawIs c) {A : AH} {d kinds states : Nat} {low high : Int} (h : Dr A d) (hk : kinds ≤ 1000) (hs0 : 0 < states) (hs : states ≤ 1000) (hlh : low ≤ high) (hb : high - low < 2 ^ 40) :
    ∃ bk A', (evSs c bLawBook [some (.ref d), some (.int kinds), some (.int states), some (.int low), some (.int high), none, none, none, none] A).fin = .ok (bookV bk) A' ∧ BkOk bk kinds states low high ∧ Fr d A A' := by
  have hd := h.lt
  have lr : ((List.range states).map fun (k : Nat) => AV.int k).length = states := by simp
  have F0 : Fr d A (A ++ [.lst []]) := Fr.app h _
  have loop : ∃ σ' A', evS c (.for_ (.name 6) (.range1 (.var 2)) [.asg (.name 7) (.new cRow), .expr (.mth .append (.var 5) [(.bif .tupof [(.var 7)])])])
      [some (.ref d), some (.int kinds), some (.int states), some (.int low), some (.int high), some (.ref A.length), none, none, none] (A ++ [.lst []]) = .next σ' A' ∧
      ∃ (bk : List (List (Int × Int))) (o6 o7 o8 : Option AV), σ' = [some (.ref d), some (.int kinds), some (.int states), some (.int low), some (.int high), some (.ref A.length), o6, o7, o8] ∧ Fr d A A' ∧ A'[A.length]? = some (.lst (bk.map rowV)) ∧ bk.length = states ∧
        ∀ r ∈ bk, r.length = kinds ∧ ∀ p ∈ r, 0 ≤ p.1 ∧ p.1 < states ∧ low ≤ p.2 ∧ p.2 ≤ high := by
    rw [forN (n := states) (by simp) (by omega)]
    obtain ⟨σ', A', h1, h2⟩ := for_end (chk := (Itm.val ((List.range states).map fun (k : Nat) => AV.int k)).chk) (tg := fun x σ A => evTg c (.name 6) x σ A)
      (body := fun σ A => evSs c [.asg (.name 7) (.new cRow), .expr (.mth .append (.var 5) [(.bif .tupof [(.var 7)])])] σ A) (xs := (List.range states).map fun (k : Nat) => AV.int k)
      (σ := [some (.ref d), some (.int kinds), some (.int states), some (.int low), some (.int high), some (.ref A.length), none, none, none]) (A := A ++ [.lst []])
      (fun i σ' A' => ∃ (bk : List (List (Int × Int))) (o6 o7 o8 : Option AV), σ' = [some (.ref d), some (.int kinds), some (.int states), some (.int low), some (.int high), some (.ref A.length), o6, o7, o8] ∧ Fr d A A' ∧ A'[A.length]? = some (.lst (bk.map rowV)) ∧ bk.length = i ∧
        ∀ r ∈ bk, r.length = kinds ∧ ∀ p ∈ r, 0 ≤ p.1 ∧ p.1 < states ∧ low ≤ p.2 ∧ p.2 ≤ high)
      ⟨[], none, none, none, rfl, F0, by simp, rfl, fun r hr => by cases hr⟩ (fun _ _ _ _ _ => rfl) (fun i x σ A1 hx ⟨bk, o6, o7, o8, e, F, hA, hl, hr⟩ => by
        subst e
        obtain ⟨hi, rfl⟩ := range_get hx
        refine ⟨_, _, rfl, ?_⟩
        obtain ⟨r, A2, e1, F2, hr1, hr2⟩ := crow_ev c D (o5 := some (.ref A.length)) (o6 := some (.int i)) (o7 := o7) (o8 := o8) F.dr hk hs0 hs hlh hb
        have hAl : A.length < A1.length := (List.getElem?_eq_some_iff.mp hA).1
        have hA2 : A2[A.length]? = some (.lst (bk.map rowV)) := by rw [F2.old _ hAl (by omega)]; exact hA
        have hA2l : A.length < A2.length := (List.getElem?_eq_some_iff.mp hA2).1
        have F3 : Fr d A (A2 ++ [.lst (r.map pairV)]) := (F.trans F2).trans (Fr.app F2.dr _)
        have hA3 : (A2 ++ [AO.lst (r.map pairV)])[A.length]? = some (.lst (bk.map rowV)) := by rw [List.getElem?_append_left hA2l]; exact hA2
        have hn : (A2 ++ [AO.lst (r.map pairV)])[A2.length]? = some (.lst (r.map pairV)) := by simp
        have hz : (bk.map rowV).length < sizeLine := by rw [List.length_map]; exact size_big (by omega)
        refine ⟨[some (.ref d), some (.int kinds), some (.int states), some (.int low), some (.int high), some (.ref A.length), some (.int i), some (.ref A2.length), o8], (A2 ++ [AO.lst (r.map pairV)]).set A.length (.lst (bk.map rowV ++ [.tup (r.map pairV)])), ?_, bk ++ [r], _, _, _, rfl, F3.setNew hd (Nat.le_refl _) _, ?_, by simp [hl], fun r' hr' => ?_⟩
        · simp [e1, mthTy_ref hA3, tupof_seq (seq_ref hn), append_ref hA3 hz]
        · rw [List.getElem?_set_self (by simp; omega)]; simp [rowV]
        · rcases List.mem_append.mp hr' with h | h
          · exact hr r' h
          · rw [List.mem_singleton.mp h]
            exact ⟨hr1, hr2⟩)
    rw [lr] at h2
    exact ⟨σ', A', h1, h2⟩
  obtain ⟨σ', A', h1, bk, o6, o7, o8, rfl, F, hA, hl, hr⟩ := loop
  refine ⟨bk, A', ?_, ⟨hl, hr⟩, F⟩
  simp [bLawBook, h1, tupof_seq (seq_ref hA), bookV]
end Ev


set_option linter.all false
set_option maxRecDepth 100000
set_option maxHeartbeats 4000000
namespace Ev
open PySem L2

/-! ### walks through a book -/
def nx (bk : List (List (Int × Int))) (s k : Int) : Int × Int := (bk.getD s.toNat []).getD k.toNat (0, 0)
def stOf (bk : List (List (Int × Int))) : Int → List Int → Int
  | s, [] => s | s, k :: r => stOf bk (nx bk s k).1 r
def adOf (bk : List (List (Int × Int))) : Int → List Int → List Int
  | _, [] => [] | s, k :: r => (nx bk s k).2 :: adOf bk (nx bk s k).1 r
theorem stOf_snoc (bk) (k : Int) : ∀ (l : List Int) (s : Int), stOf bk s (l ++ [k]) = (nx bk (stOf bk s l) k).1
  | [], _ => rfl
  | _ :: r, _ => stOf_snoc bk k r _
theorem adOf_snoc (bk) (k : Int) : ∀ (l : List Int) (s : Int), adOf bk s (l ++ [k]) = adOf bk s l ++ [(nx bk (stOf bk s l) k).2]
  | [], _ => rfl
  | x :: r, s => by
    show _ :: adOf bk _ (r ++ [k]) = _
    rw [adOf_snoc bk k r]
    rfl
theorem adOf_len (bk) : ∀ (l : List Int) (s : Int), (adOf bk s l).length = l.length
  | [], _ => rfl
  | x :: r, s => by
    show (adOf bk _ r).length + 1 = r.length + 1
    rw [adOf_len bk r]
theorem take_succ' {xs : List Int} {i : Nat} {k : Int} (h : xs[i]? = some k) : xs.take (i + 1) = xs.take i ++ [k] := by
  rw [List.take_succ, h]; rfl
def inB (row : List Int) (kinds : Nat) : Prop := ∀ k ∈ row, 0 ≤ k ∧ k < kinds
def rowI (row : List Int) : AV := .tup (row.map .int)
theorem nx_ok {bk : List (List (Int × Int))} {kinds states : Nat} {lo hi s k : Int} (h : BkOk bk kinds states lo hi) (h0 : 0 ≤ s) (h1 : s < states) (h2 : 0 ≤ k) (h3 : k < kinds) (A : AH) :
    ∃ r, aIx (bookV bk) (.int s) A = some (rowV r) ∧ aIx (rowV r) (.int k) A = some (pairV (nx bk s k)) ∧ 0 ≤ (nx bk s k).1 ∧ (nx bk s k).1 < states := by
  obtain ⟨n, rfl⟩ : ∃ n : Nat, s = n := ⟨s.toNat, by omega⟩
  obtain ⟨j, rfl⟩ : ∃ j : Nat, k = j := ⟨k.toNat, by omega⟩
  have hn : n < bk.length := by rw [h.len]; omega
  obtain ⟨hr, hp⟩ := h.row bk[n] (List.getElem_mem hn)
  have hj : j < bk[n].length := by rw [hr]; omega
  have e : nx bk n j = bk[n][j] := by
    unfold nx
    simp [List.getD_eq_getElem?_getD, hn, hj]
  refine ⟨bk[n], ?_, ?_, ?_⟩
  · exact atI_nat (by rw [List.getElem?_map, List.getElem?_eq_getElem hn]; rfl)
  · rw [e]; exact atI_nat (by rw [List.getElem?_map, List.getElem?_eq_getElem hj]; rfl)
  · rw [e]
    have := hp _ (List.getElem_mem hj)
    exact ⟨this.1, this.2.1⟩
theorem stOf_ok {bk : List (List (Int × Int))} {kinds states : Nat} {lo hi : Int} (h : BkOk bk kinds states lo hi) : ∀ (l : List Int) (s : Int), inB l kinds → 0 ≤ s → s < states → 0 ≤ stOf bk s l ∧ stOf bk s l < states
  | [], s, _, h0, h1 => ⟨h0, h1⟩
  | k :: r, s, hr, h0, h1 => by
    obtain ⟨_, _, _, q1, q2⟩ := nx_ok h h0 h1 (hr k (by simp)).1 (hr k (by simp)).2 []
    exact stOf_ok h r _ (fun x hx => hr x (List.mem_cons_of_mem _ hx)) q1 q2
theorem inB.take {row : List Int} {kinds : Nat} (h : inB row kinds) (i : Nat) : inB (row.take i) kinds := fun k hk => h k (List.mem_of_mem_take hk)
def bCost : List S := [.asg (.name 2) (.lit (.int 0)),
    .asg (.name 3) (.lit (.int 0)),
    .for_ (.name 4) (.v (.var 1)) [.asg (.tup [(.name 2), (.name 5)]) (.ix (.ix (.var 0) (.var 2)) (.var 4)),
      .aug 3 .add (.var 5)],
    .ret (.var 3)]
def bAfter : List S := [.asg (.name 2) (.lit (.int 0)),
    .for_ (.name 3) (.v (.var 1)) [.asg (.name 2) (.ix (.ix (.ix (.var 0) (.var 2)) (.var 3)) (.lit (.int 0)))],
    .ret (.var 2)]
def bAdds : List S := [.asg (.name 2) (.lit (.int 0)),
    .asg (.name 3) (.new (.disp [])),
    .for_ (.name 4) (.v (.var 1)) [.asg (.tup [(.name 2), (.name 5)]) (.ix (.ix (.var 0) (.var 2)) (.var 4)),
      .expr (.mth .append (.var 3) [(.var 5)])],
    .ret (.bif .tupof [(.var 3)])]
section
variable {bk : List (List (Int × Int))} {kinds states : Nat} {lo hi : Int} {row : List Int}
theorem row_get {i : Nat} {x : AV} (h : (row.map AV.int)[i]? = some x) : ∃ k, row[i]? = some k ∧ x = .int k := by
  rw [List.getElem?_map] at h
  obtain ⟨k, h1, h2⟩ := Option.map_eq_some_iff.mp h
  exact ⟨k, h1, h2.symm⟩
theorem sum_snoc (l : List Int) (x : Int) : (l ++ [x]).sum = l.sum + x := by
  rw [List.sum_append]; simp
theorem cost_ev (c : Cfg) (A : AH) (h : BkOk bk kinds states lo hi) (hs : 0 < states) (hr : inB row kinds) : (evSs c bCost [some (bookV bk), some (rowI row), none, none, none, none] A).fin = .ok (.int (adOf bk 0 row).sum) A := by
  have loop : ∃ σ' A', evS c (.for_ (.name 4) (.v (.var 1)) [.asg (.tup [(.name 2), (.name 5)]) (.ix (.ix (.var 0) (.var 2)) (.var 4)), .aug 3 .add (.var 5)]) [some (bookV bk), some (rowI row), some (.int 0), some (.int 0), none, none] A = .next σ' A' ∧
      A' = A ∧ ∃ o4 o5, σ' = [some (bookV bk), some (rowI row), some (.int (stOf bk 0 (row.take (row.map AV.int).length))), some (.int (adOf bk 0 (row.take (row.map AV.int).length)).sum), o4, o5] := by
    rw [forV (xs := row.map .int) rfl]
    exact for_end (fun i σ' A' => A' = A ∧ ∃ o4 o5, σ' = [some (bookV bk), some (rowI row), some (.int (stOf bk 0 (row.take i))), some (.int (adOf bk 0 (row.take i)).sum), o4, o5])
      ⟨rfl, _, _, rfl⟩ (fun _ _ _ _ _ => rfl) (fun i x σ A1 hx ⟨e, o4, o5, e2⟩ => by
        subst e; subst e2
        obtain ⟨k, hk, rfl⟩ := row_get hx
        have hin := hr k (List.mem_of_getElem? hk)
        obtain ⟨q1, q2⟩ := stOf_ok h (row.take i) 0 (hr.take i) (Int.le_refl 0) (by omega)
        obtain ⟨r, i1, i2, _, _⟩ := nx_ok h q1 q2 hin.1 hin.2 A1
        refine ⟨_, _, rfl, [some (bookV bk), some (rowI row), some (.int (nx bk (stOf bk 0 (row.take i)) k).1), some (.int ((adOf bk 0 (row.take i)).sum + (nx bk (stOf bk 0 (row.take i)) k).2)), some (.int k), some (.int (nx bk (stOf bk 0 (row.take i)) k).2)], A1, by simp [i1, i2, pairV], rfl, some (.int k), some (.int (nx bk (stOf bk 0 (row.take i)) k).2), ?_⟩
        rw [take_succ' hk, stOf_snoc, adOf_snoc, sum_snoc])
  obtain ⟨σ', A', h1, rfl, o4, o5, rfl⟩ := loop
  simp [bCost, h1]
theorem after_ev (c : Cfg) (A : AH) (h : BkOk bk kinds states lo hi) (hs : 0 < states) (hr : inB row kinds) : (evSs c bAfter [some (bookV bk), some (rowI row), none, none] A).fin = .ok (.int (stOf bk 0 row)) A := by
  have loop : ∃ σ' A', evS c (.for_ (.name 3) (.v (.var 1)) [.asg (.name 2) (.ix (.ix (.ix (.var 0) (.var 2)) (.var 3)) (.lit (.int 0)))]) [some (bookV bk), some (rowI row), some (.int 0), none] A = .next σ' A' ∧
      A' = A ∧ ∃ o4, σ' = [some (bookV bk), some (rowI row), some (.int (stOf bk 0 (row.take (row.map AV.int).length))), o4] := by
    rw [forV (xs := row.map .int) rfl]
    exact for_end (fun i σ' A' => A' = A ∧ ∃ o4, σ' = [some (bookV bk), some (rowI row), some (.int (stOf bk 0 (row.take i))), o4])
      ⟨rfl, _, rfl⟩ (fun _ _ _ _ _ => rfl) (fun i x σ A1 hx ⟨e, o4, e2⟩ => by
        subst e; subst e2
        obtain ⟨k, hk, rfl⟩ := row_get hx
        have hin := hr k (List.mem_of_getElem? hk)
        obtain ⟨q1, q2⟩ := stOf_ok h (row.take i) 0 (hr.take i) (Int.le_refl 0) (by omega)
        obtain ⟨r, i1, i2, _, _⟩ := nx_ok h q1 q2 hin.1 hin.2 A1
        refine ⟨_, _, rfl, [some (bookV bk), some (rowI row), some (.int (nx bk (stOf bk 0 (row.take i)) k).1), some (.int k)], A1, by simp [i1, i2, pairV, ixTup, atI0], rfl, some (.int k), ?_⟩
        rw [take_succ' hk, stOf_snoc])
  obtain ⟨σ', A', h1, rfl, o4, rfl⟩ := loop
  simp [bAfter, h1]
/-- found: the list at n -/
theorem addsLoop (c : Cfg) (A : AH) (n i2 i3 i4 i5 : Nat) (h : BkOk bk kinds states lo hi) (hs : 0 < states) (hr : inB row kinds) (hz : row.length ≤ 1000000) (tl : List (Option AV)) (o4 o5 : Option AV) (hA : A[n]? = some (.lst [])) (e4 : i2 = 2 ∧ i3 = 3 ∧ i4 = 4 ∧ i5 = 5) :
    ∃ o4' o5', evS c (.for_ (.name i4) (.v (.var 1)) [.asg (.tup [(.name i2), (.name i5)]) (.ix (.ix (.var 0) (.var i2)) (.var i4)), .expr (.mth .append (.var i3) [(.var i5)])]) ([some (bookV bk), some (rowI row), some (.int 0), some (.ref n), o4, o5] ++ tl) A =
      .next ([some (bookV bk), some (rowI row), some (.int (stOf bk 0 row)), some (.ref n), o4', o5'] ++ tl) (A.set n (.lst ((adOf bk 0 row).map .int))) := by
  obtain ⟨rfl, rfl, rfl, rfl⟩ := e4
  have hn : n < A.length := (List.getElem?_eq_some_iff.mp hA).1
  have loop : ∃ σ' A', evS c (.for_ (.name 4) (.v (.var 1)) [.asg (.tup [(.name 2), (.name 5)]) (.ix (.ix (.var 0) (.var 2)) (.var 4)), .expr (.mth .append (.var 3) [(.var 5)])]) ([some (bookV bk), some (rowI row), some (.int 0), some (.ref n), o4, o5] ++ tl) A = .next σ' A' ∧
      A' = A.set n (.lst ((adOf bk 0 (row.take (row.map AV.int).length)).map .int)) ∧ ∃ o4 o5, σ' = [some (bookV bk), some (rowI row), some (.int (stOf bk 0 (row.take (row.map AV.int).length))), some (.ref n), o4, o5] ++ tl := by
    rw [forV (xs := row.map .int) rfl]
    exact for_end (fun i σ' A' => A' = A.set n (.lst ((adOf bk 0 (row.take i)).map .int)) ∧ ∃ o4 o5, σ' = [some (bookV bk), some (rowI row), some (.int (stOf bk 0 (row.take i))), some (.ref n), o4, o5] ++ tl)
      ⟨by simp [adOf, ← (List.getElem?_eq_some_iff.mp hA).2], _, _, rfl⟩ (fun _ _ _ _ _ => rfl) (fun i x σ A1 hx ⟨e, o4, o5, e2⟩ => by
        subst e2
        obtain ⟨k, hk, rfl⟩ := row_get hx
        have hin := hr k (List.mem_of_getElem? hk)
        obtain ⟨q1, q2⟩ := stOf_ok h (row.take i) 0 (hr.take i) (Int.le_refl 0) (by omega)
        obtain ⟨r, i1, i2, _, _⟩ := nx_ok h q1 q2 hin.1 hin.2 A1
        have hA1 : A1[n]? = some (.lst ((adOf bk 0 (row.take i)).map .int)) := by rw [e, List.getElem?_set_self hn]
        have hl : ((adOf bk 0 (row.take i)).map AV.int).length < sizeLine := by
          rw [List.length_map, adOf_len, List.length_take]
          exact size_big (by omega)
        refine ⟨_, _, rfl, [some (bookV bk), some (rowI row), some (.int (nx bk (stOf bk 0 (row.take i)) k).1), some (.ref n), some (.int k), some (.int (nx bk (stOf bk 0 (row.take i)) k).2)] ++ tl, A1.set n (.lst ((adOf bk 0 (row.take i)).map .int ++ [.int (nx bk (stOf bk 0 (row.take i)) k).2])), by simp [i1, i2, pairV, mthTy_ref hA1, append_ref hA1 hl], ?_, some (.int k), some (.int (nx bk (stOf bk 0 (row.take i)) k).2), ?_⟩
        · rw [take_succ' hk, adOf_snoc, e, List.set_set, List.map_append]; rfl
        · rw [take_succ' hk, stOf_snoc])
  obtain ⟨σ', A', h1, rfl, o4, o5, rfl⟩ := loop
  refine ⟨o4, o5, ?_⟩
  rw [h1]
  simp
theorem adds_ev (c : Cfg) (A : AH) (h : BkOk bk kinds states lo hi) (hs : 0 < states) (hr : inB row kinds) (hz : row.length ≤ 1000000) : ∃ G, (evSs c bAdds [some (bookV bk), some (rowI row), none, none, none, none] A).fin = .ok (.tup ((adOf bk 0 row).map .int)) (A ++ G) := by
  have hA : (A ++ [AO.lst []])[A.length]? = some (.lst []) := by simp
  obtain ⟨o4, o5, h1⟩ := addsLoop c (A ++ [.lst []]) A.length 2 3 4 5 h hs hr hz [] none none hA ⟨rfl, rfl, rfl, rfl⟩
  simp only [List.append_nil] at h1
  have e : (A ++ [AO.lst []]).set A.length (.lst ((adOf bk 0 row).map .int)) = A ++ [.lst ((adOf bk 0 row).map .int)] := by simp
  rw [e] at h1
  have hB : (A ++ [AO.lst ((adOf bk 0 row).map AV.int)])[A.length]? = some (.lst ((adOf bk 0 row).map .int)) := by simp
  exact ⟨[.lst ((adOf bk 0 row).map AV.int)], by simp [bAdds, h1, tupof_seq (seq_ref hB)]⟩
end
end Ev


set_option linter.all false
set_option maxRecDepth 100000
set_option maxHeartbeats 4000000
namespace Law
open PySem PySem.Spec PyProof.Rows L2 Ev

def topS (i : Nat) : Stmt := PySem.Challenge.pw_outlaypact_k02_books_run.main.body.getD i (.Pass ⟨0, 0, 0, 0⟩)
def b_is_whole : List S := [.ret (.and (.bif .isinst [(.var 0), (.lit (.ty "int"))]) (.not (.bif .isinst [(.var 0), (.lit (.ty "bool"))])))]
def e_is_whole : Ent := ⟨"is_whole", ["value"], ["value"], [], 44, 75, b_is_whole⟩
def b_is_pair : List S := [.if_ (.or (.not (.bif .isinst [(.var 0), (.lit (.ty "tuple"))])) (.cmp .ne (.bif .len [(.var 0)]) (.lit (.int 2)))) [.ret (.lit (.bl false))] [],
    .if_ (.or (.not (.call "is_whole" [(.ix (.var 0) (.lit (.int 0)))] [])) (.not (.call "is_whole" [(.ix (.var 0) (.lit (.int 1)))] []))) [.ret (.lit (.bl false))] [],
    .ret (.and (.chain .le .lt (.lit (.int 0)) (.ix (.var 0) (.lit (.int 0))) (.var 1)) (.chain .le .le (.neg (.glob "MOST_COST")) (.ix (.var 0) (.lit (.int 1))) (.glob "MOST_COST")))]
def e_is_pair : Ent := ⟨"is_pair", ["value", "states"], ["value", "states"], [], 46, 79, b_is_pair⟩
def b_is_book : List S := [.if_ (.or (.not (.bif .isinst [(.var 0), (.lit (.ty "tuple"))])) (.not (.chain .le .le (.lit (.int 1)) (.bif .len [(.var 0)]) (.glob "MOST_STATES")))) [.ret (.lit (.bl false))] [],
    .if_ (.or (.not (.bif .isinst [(.ix (.var 0) (.lit (.int 0))), (.lit (.ty "tuple"))])) (.not (.chain .le .le (.lit (.int 1)) (.bif .len [(.ix (.var 0) (.lit (.int 0)))]) (.glob "MOST_KINDS")))) [.ret (.lit (.bl false))] [],
    .for_ (.name 1) (.v (.var 0)) [.if_ (.or (.not (.bif .isinst [(.var 1), (.lit (.ty "tuple"))])) (.cmp .ne (.bif .len [(.var 1)]) (.bif .len [(.ix (.var 0) (.lit (.int 0)))]))) [.ret (.lit (.bl false))] [],
      .for_ (.name 2) (.v (.var 1)) [.if_ (.not (.call "is_pair" [(.var 2), (.bif .len [(.var 0)])] [])) [.ret (.lit (.bl false))] []]],
    .ret (.lit (.bl true))]
def e_is_book : Ent := ⟨"is_book", ["value", "state", "pair"], ["value"], [], 48, 82, b_is_book⟩
def b_cost_of : List S := [.asg (.name 2) (.lit (.int 0)),
    .asg (.name 3) (.lit (.int 0)),
    .for_ (.name 4) (.v (.var 1)) [.asg (.tup [(.name 2), (.name 5)]) (.ix (.ix (.var 0) (.var 2)) (.var 4)),
      .aug 3 .add (.var 5)],
    .ret (.var 3)]
def e_cost_of : Ent := ⟨"cost_of", ["book", "row", "state", "total", "kind", "added"], ["book", "row"], [], 44, 78, b_cost_of⟩
def b_state_after : List S := [.asg (.name 2) (.lit (.int 0)),
    .for_ (.name 3) (.v (.var 1)) [.asg (.name 2) (.ix (.ix (.ix (.var 0) (.var 2)) (.var 3)) (.lit (.int 0)))],
    .ret (.var 2)]
def e_state_after : Ent := ⟨"state_after", ["book", "row", "state", "kind"], ["book", "row"], [], 46, 79, b_state_after⟩
def b_adds_of : List S := [.asg (.name 2) (.lit (.int 0)),
    .asg (.name 3) (.new (.disp [])),
    .for_ (.name 4) (.v (.var 1)) [.asg (.tup [(.name 2), (.name 5)]) (.ix (.ix (.var 0) (.var 2)) (.var 4)),
      .expr (.mth .append (.var 3) [(.var 5)])],
    .ret (.bif .tupof [(.var 3)])]
def e_adds_of : Ent := ⟨"adds_of", ["book", "row", "state", "found", "kind", "added"], ["book", "row"], [], 44, 78, b_adds_of⟩
def b__law_begin : List S := [.ret (.new (.disp [(.new (.comp [1] (.v (.var 0)) (.name 1) (.lit (.bl true)) (.bif .int_ [(.var 1)]))), (.lit (.int 0)), (.lit (.int 0)), (.lit (.int 7)), (.lit (.int 3))]))]
def e__law_begin : Ent := ⟨"_law_begin", ["script", "cell"], ["script"], [], 44, 75, b__law_begin⟩
def b__law_draw : List S := [.if_ (.cmp .gt (.ix (.var 0) (.lit (.int 2))) (.lit (.int 0))) [.asg (.name 2) (.ix (.var 0) (.lit (.int 2))),
      .asg (.sub (.var 0) (.lit (.int 2))) (.bin .fdiv (.var 2) (.var 1)),
      .ret (.bin .mod (.bif .int_ [(.var 2)]) (.var 1))] [],
    .asg (.name 3) (.lit (.int 0)),
    .if_ (.cmp .lt (.ix (.var 0) (.lit (.int 1))) (.bif .len [(.ix (.var 0) (.lit (.int 0)))])) [.asg (.name 4) (.ix (.ix (.var 0) (.lit (.int 0))) (.ix (.var 0) (.lit (.int 1)))),
      .asg (.name 3) (.bin .add (.bin .mul (.lit (.int 2)) (.bif .abs [(.var 4)])) (.bif .int_ [(.cmp .lt (.var 4) (.lit (.int 0)))]))] [],
    .augs (.var 0) (.lit (.int 1)) .add (.lit (.int 1)),
    .if_ (.cmp .ge (.var 3) (.bin .mul (.lit (.int 2)) (.bin .pow (.lit (.int 10)) (.lit (.int 18))))) [.asg (.name 2) (.bin .mod (.bif .int_ [(.bin .fdiv (.var 3) (.lit (.int 2)))]) (.bin .shl (.lit (.int 1)) (.lit (.int 6000)))),
      .asg (.sub (.var 0) (.lit (.int 2))) (.bin .fdiv (.var 2) (.var 1)),
      .ret (.bin .mod (.bif .int_ [(.var 2)]) (.var 1))] [],
    .asg (.sub (.var 0) (.lit (.int 3))) (.bin .mod (.bif .int_ [(.bin .add (.bin .add (.bin .add (.bin .mul (.ix (.var 0) (.lit (.int 3))) (.lit (.int 48271))) (.bin .mul (.bin .mod (.bif .int_ [(.var 3)]) (.lit (.int 2147483629))) (.lit (.int 16807)))) (.bin .mul (.ix (.var 0) (.lit (.int 1))) (.lit (.int 69621)))) (.lit (.int 11)))]) (.lit (.int 2147483647))),
    .ret (.bin .mod (.bif .int_ [(.bin .fdiv (.ix (.var 0) (.lit (.int 3))) (.lit (.int 16)))]) (.var 1))]
def e__law_draw : Ent := ⟨"_law_draw", ["d", "many", "found", "size", "cell"], ["d", "many"], [], 54, 91, b__law_draw⟩
def b__law_pick : List S := [.ret (.ix (.var 1) (.call "_law_draw" [(.var 0), (.bif .len [(.var 1)])] []))]
def e__law_pick : Ent := ⟨"_law_pick", ["d", "row"], ["d", "row"], [], 44, 75, b__law_pick⟩
def b__law_rare : List S := [.ret (.cmp .eq (.call "_law_draw" [(.var 0), (.var 1)] []) (.bin .fdiv (.var 1) (.lit (.int 2))))]
def e__law_rare : Ent := ⟨"_law_rare", ["d", "many"], ["d", "many"], [], 42, 73, b__law_rare⟩
def b__law_is_int : List S := [.ret (.and (.bif .isinst [(.var 0), (.lit (.ty "int"))]) (.not (.bif .isinst [(.var 0), (.lit (.ty "bool"))])))]
def e__law_is_int : Ent := ⟨"_law_is_int", ["thing"], ["thing"], [], 44, 75, b__law_is_int⟩
def b__law_is_ints : List S := [.ret (.and (.bif .isinst [(.var 0), (.lit (.ty "tuple"))]) (.lf .all (.comp [1] (.v (.var 0)) (.name 1) (.lit (.bl true)) (.call "_law_is_int" [(.var 1)] []))))]
def e__law_is_ints : Ent := ⟨"_law_is_ints", ["row", "part"], ["row"], [], 46, 77, b__law_is_ints⟩
def b__law_book : List S := [.asg (.name 5) (.new (.disp [])),
    .for_ (.name 6) (.range1 (.var 2)) [.asg (.name 7) (.new (.comp [8] (.range1 (.var 1)) (.name 8) (.lit (.bl true)) (.tup [(.call "_law_draw" [(.var 0), (.var 2)] []), (.bin .add (.var 3) (.call "_law_draw" [(.var 0), (.bin .add (.bin .sub (.var 4) (.var 3)) (.lit (.int 1)))] []))]))),
      .expr (.mth .append (.var 5) [(.bif .tupof [(.var 7)])])],
    .ret (.bif .tupof [(.var 5)])]
def e__law_book : Ent := ⟨"_law_book", ["d", "kinds", "states", "low", "high", "rows", "state", "row", "kind"], ["d", "kinds", "states", "low", "high"], [], 52, 85, b__law_book⟩
def b__law_is_book : List S := [.if_ (.or (.not (.bif .isinst [(.var 0), (.lit (.ty "tuple"))])) (.not (.chain .le .le (.lit (.int 1)) (.bif .len [(.var 0)]) (.lit (.int 24))))) [.ret (.lit (.bl false))] [],
    .if_ (.or (.not (.bif .isinst [(.ix (.var 0) (.lit (.int 0))), (.lit (.ty "tuple"))])) (.not (.chain .le .le (.lit (.int 1)) (.bif .len [(.ix (.var 0) (.lit (.int 0)))]) (.lit (.int 6))))) [.ret (.lit (.bl false))] [],
    .for_ (.name 1) (.v (.var 0)) [.if_ (.or (.not (.bif .isinst [(.var 1), (.lit (.ty "tuple"))])) (.cmp .ne (.bif .len [(.var 1)]) (.bif .len [(.ix (.var 0) (.lit (.int 0)))]))) [.ret (.lit (.bl false))] [],
      .for_ (.name 2) (.v (.var 1)) [.if_ (.or (.not (.call "_law_is_ints" [(.var 2)] [])) (.cmp .ne (.bif .len [(.var 2)]) (.lit (.int 2)))) [.ret (.lit (.bl false))] [],
        .if_ (.or (.not (.chain .le .lt (.lit (.int 0)) (.ix (.var 2) (.lit (.int 0))) (.bif .len [(.var 0)]))) (.not (.chain .le .le (.neg (.lit (.int 9999))) (.ix (.var 2) (.lit (.int 1))) (.lit (.int 9999))))) [.ret (.lit (.bl false))] []]],
    .ret (.lit (.bl true))]
def e__law_is_book : Ent := ⟨"_law_is_book", ["thing", "state", "pair"], ["thing"], [], 50, 84, b__law_is_book⟩
def b__law_with : List S := [.asg (.name 4) (.new (.comp [5] (.v (.var 0)) (.name 5) (.lit (.bl true)) (.bif .listof [(.var 5)]))),
    .asg (.sub (.ix (.var 4) (.var 1)) (.var 2)) (.var 3),
    .ret (.lf .tup (.comp [5] (.v (.var 4)) (.name 5) (.lit (.bl true)) (.bif .tupof [(.var 5)])))]
def e__law_with : Ent := ⟨"_law_with", ["book", "state", "kind", "pair", "rows", "row"], ["book", "state", "kind", "pair"], [], 44, 77, b__law_with⟩
def b__law_changed : List S := [.asg (.name 2) (.call "_law_draw" [(.var 0), (.bif .len [(.var 1)])] []),
    .asg (.name 3) (.call "_law_draw" [(.var 0), (.bif .len [(.ix (.var 1) (.lit (.int 0)))])] []),
    .asg (.tup [(.name 4), (.name 5)]) (.ix (.ix (.var 1) (.var 2)) (.var 3)),
    .asg (.name 6) (.new (.disp [(.tup [(.bif .len [(.var 1)]), (.var 5)]), (.tup [(.neg (.lit (.int 1))), (.var 5)]), (.tup [(.var 4), (.lit (.int 10000))]), (.tup [(.var 4), (.neg (.lit (.int 10000)))]), (.tup [(.var 4), (.lit (.bl true))]), (.tup [(.var 4)]), (.new (.disp [(.var 4), (.var 5)])), (.tup [(.var 4), (.var 5), (.lit (.int 0))]), (.lit (.non)), (.tup [(.var 4), (.lit (.int 9999))]), (.tup [(.var 4), (.neg (.lit (.int 9999)))])])),
    .asg (.name 7) (.call "_law_draw" [(.var 0), (.lit (.int 16))] []),
    .if_ (.cmp .lt (.var 7) (.lit (.int 11))) [.ret (.call "_law_with" [(.var 1), (.var 2), (.var 3), (.ix (.var 6) (.var 7))] [])] [],
    .if_ (.cmp .eq (.var 7) (.lit (.int 11))) [.ret (.bin .add (.bin .add (.sl (.var 1) none (some (.var 2))) (.tup [(.bin .add (.sl (.ix (.var 1) (.var 2)) none (some (.var 3))) (.sl (.ix (.var 1) (.var 2)) (some (.bin .add (.var 3) (.lit (.int 1)))) none))])) (.sl (.var 1) (some (.bin .add (.var 2) (.lit (.int 1)))) none))] [],
    .if_ (.cmp .eq (.var 7) (.lit (.int 12))) [.ret (.bin .add (.bin .add (.sl (.var 1) none (some (.var 2))) (.tup [(.bif .listof [(.ix (.var 1) (.var 2))])])) (.sl (.var 1) (some (.bin .add (.var 2) (.lit (.int 1)))) none))] [],
    .if_ (.cmp .eq (.var 7) (.lit (.int 13))) [.ret (.bin .mul (.tup [(.ix (.var 1) (.lit (.int 0)))]) (.lit (.int 25)))] [],
    .if_ (.cmp .eq (.var 7) (.lit (.int 14))) [.ret (.bif .listof [(.var 1)])] [],
    .ret (.call "_law_pick" [(.var 0), (.new (.disp [(.tup []), (.lit (.non)), (.lit (.str "book")), (.lit (.int 0)), (.tup [(.tup [])]), (.tup [(.bin .mul (.tup [(.tup [(.lit (.int 0)), (.lit (.int 0))])]) (.lit (.int 7)))]), (.tup [(.bin .mul (.tup [(.tup [(.lit (.int 0)), (.lit (.int 0))])]) (.lit (.int 6)))]), (.bin .mul (.tup [(.tup [(.tup [(.lit (.int 0)), (.lit (.int 0))])])]) (.lit (.int 24)))]))] [])]
def e__law_changed : Ent := ⟨"_law_changed", ["d", "book", "state", "kind", "after", "added", "pairs", "way"], ["d", "book"], [], 54, 95, b__law_changed⟩
def b__law_says : List S := [.ret (.and (.bif .isinst [(.call "is_book" [(.var 0)] []), (.lit (.ty "bool"))]) (.cmp .eq (.call "is_book" [(.var 0)] []) (.call "_law_is_book" [(.var 0)] [])))]
def e__law_says : Ent := ⟨"_law_says", ["thing"], ["thing"], [], 44, 75, b__law_says⟩
def b__law_runs : List S := [.asg (.name 2) (.lit (.int 0)),
    .asg (.name 3) (.new (.disp [])),
    .for_ (.name 4) (.v (.var 1)) [.asg (.tup [(.name 2), (.name 5)]) (.ix (.ix (.var 0) (.var 2)) (.var 4)),
      .expr (.mth .append (.var 3) [(.var 5)])],
    .asg (.name 6) (.new (.disp [(.call "cost_of" [(.var 0), (.var 1)] []), (.call "state_after" [(.var 0), (.var 1)] [])])),
    .if_ (.or (.not (.lf .all (.comp [7] (.v (.var 6)) (.name 7) (.lit (.bl true)) (.call "_law_is_int" [(.var 7)] [])))) (.cmp .ne (.var 6) (.new (.disp [(.bif (.lfof .sum) [(.var 3)]), (.var 2)])))) [.ret (.lit (.bl false))] [],
    .ret (.and (.call "_law_is_ints" [(.call "adds_of" [(.var 0), (.var 1)] [])] []) (.cmp .eq (.call "adds_of" [(.var 0), (.var 1)] []) (.bif .tupof [(.var 3)])))]
def e__law_runs : Ent := ⟨"_law_runs", ["book", "row", "state", "adds", "kind", "added", "told", "one"], ["book", "row"], [], 48, 84, b__law_runs⟩
def b_law : List S := [.asg (.name 1) (.call "_law_begin" [(.var 0)] []),
    .asg (.name 2) (.bin .add (.lit (.int 1)) (.call "_law_draw" [(.var 1), (.lit (.int 3))] [])),
    .asg (.name 3) (.bin .add (.lit (.int 1)) (.call "_law_draw" [(.var 1), (.lit (.int 4))] [])),
    .if_ (.call "_law_rare" [(.var 1), (.lit (.int 9))] []) [.asg (.name 2) (.lit (.int 6)),
      .asg (.name 3) (.bin .add (.lit (.int 20)) (.call "_law_draw" [(.var 1), (.lit (.int 5))] []))] [],
    .asg (.name 4) (.neg (.lit (.int 9))),
    .if_ (.cmp .eq (.call "_law_draw" [(.var 1), (.lit (.int 3))] []) (.lit (.int 1))) [.asg (.name 4) (.neg (.lit (.int 9999)))] [],
    .asg (.name 5) (.call "_law_book" [(.var 1), (.var 2), (.var 3), (.var 4), (.neg (.var 4))] []),
    .asg (.name 6) (.lf .tup (.comp [7] (.range1 (.call "_law_draw" [(.var 1), (.lit (.int 9))] [])) (.name 7) (.lit (.bl true)) (.call "_law_draw" [(.var 1), (.var 2)] []))),
    .for_ (.name 8) (.range1 (.bin .add (.bif .len [(.var 6)]) (.lit (.int 1)))) [.if_ (.not (.call "_law_runs" [(.var 5), (.sl (.var 6) none (some (.var 8)))] [])) [.ret (.lit (.bl false))] []],
    .if_ (.and (.call "_law_rare" [(.var 1), (.lit (.int 7))] []) (.not (.call "_law_runs" [(.var 5), (.bin .mul (.bin .add (.var 6) (.tup [(.lit (.int 0))])) (.lit (.int 33)))] []))) [.ret (.lit (.bl false))] [],
    .ret (.and (.call "_law_says" [(.var 5)] []) (.and (.call "_law_says" [(.call "_law_changed" [(.var 1), (.var 5)] [])] []) (.call "_law_says" [(.call "_law_changed" [(.var 1), (.var 5)] [])] [])))]
def e_law : Ent := ⟨"law", ["script", "d", "kinds", "states", "low", "book", "row", "k", "size"], ["script"], [], 48, 89, b_law⟩
def T : List Ent := [e_is_whole, e_is_pair, e_is_book, e_cost_of, e_state_after, e_adds_of, e__law_begin, e__law_draw, e__law_pick, e__law_rare, e__law_is_int, e__law_is_ints, e__law_book, e__law_is_book, e__law_with, e__law_changed, e__law_says, e__law_runs, e_law]
def gl (x : Str) : Option AV := if x = "MOST_KINDS" then some (.int 6) else if x = "MOST_STATES" then some (.int 24) else if x = "MOST_COST" then some (.int 9999) else none
def G : GI := giOf T gl false
theorem t_is_whole : trSs G e_is_whole.N e_is_whole.fu e_is_whole.gu (defScope (topS 1)) (defBody (topS 1)) = some e_is_whole.body := by rfl
theorem s_is_whole : FnScope e_is_whole.N e_is_whole.ps (defScope (topS 1)) := ⟨rfl, rfl, rfl, by decide +kernel, rfl, by decide +kernel, by decide +kernel⟩
theorem t_is_pair : trSs G e_is_pair.N e_is_pair.fu e_is_pair.gu (defScope (topS 6)) (defBody (topS 6)) = some e_is_pair.body := by rfl
theorem s_is_pair : FnScope e_is_pair.N e_is_pair.ps (defScope (topS 6)) := ⟨rfl, rfl, rfl, by decide +kernel, rfl, by decide +kernel, by decide +kernel⟩
theorem t_is_book : trSs G e_is_book.N e_is_book.fu e_is_book.gu (defScope (topS 7)) (defBody (topS 7)) = some e_is_book.body := by rfl
theorem s_is_book : FnScope e_is_book.N e_is_book.ps (defScope (topS 7)) := ⟨rfl, rfl, rfl, by decide +kernel, rfl, by decide +kernel, by decide +kernel⟩
theorem t_cost_of : trSs G e_cost_of.N e_cost_of.fu e_cost_of.gu (defScope (topS 8)) (defBody (topS 8)) = some e_cost_of.body := by rfl
theorem s_cost_of : FnScope e_cost_of.N e_cost_of.ps (defScope (topS 8)) := ⟨rfl, rfl, rfl, by decide +kernel, rfl, by decide +kernel, by decide +kernel⟩
theorem t_state_after : trSs G e_state_after.N e_state_after.fu e_state_after.gu (defScope (topS 9)) (defBody (topS 9)) = some e_state_after.body := by rfl
theorem s_state_after : FnScope e_state_after.N e_state_after.ps (defScope (topS 9)) := ⟨rfl, rfl, rfl, by decide +kernel, rfl, by decide +kernel, by decide +kernel⟩
theorem t_adds_of : trSs G e_adds_of.N e_adds_of.fu e_adds_of.gu (defScope (topS 10)) (defBody (topS 10)) = some e_adds_of.body := by rfl
theorem s_adds_of : FnScope e_adds_of.N e_adds_of.ps (defScope (topS 10)) := ⟨rfl, rfl, rfl, by decide +kernel, rfl, by decide +kernel, by decide +kernel⟩
theorem t__law_begin : trSs G e__law_begin.N e__law_begin.fu e__law_begin.gu (defScope (topS 12)) (defBody (topS 12)) = some e__law_begin.body := by rfl
theorem s__law_begin : FnScope e__law_begin.N e__law_begin.ps (defScope (topS 12)) := ⟨rfl, rfl, rfl, by decide +kernel, rfl, by decide +kernel, by decide +kernel⟩
theorem t__law_draw : trSs G e__law_draw.N e__law_draw.fu e__law_draw.gu (defScope (topS 13)) (defBody (topS 13)) = some e__law_draw.body := by rfl
theorem s__law_draw : FnScope e__law_draw.N e__law_draw.ps (defScope (topS 13)) := ⟨rfl, rfl, rfl, by decide +kernel, rfl, by decide +kernel, by decide +kernel⟩
theorem t__law_pick : trSs G e__law_pick.N e__law_pick.fu e__law_pick.gu (defScope (topS 14)) (defBody (topS 14)) = some e__law_pick.body := by rfl
theorem s__law_pick : FnScope e__law_pick.N e__law_pick.ps (defScope (topS 14)) := ⟨rfl, rfl, rfl, by decide +kernel, rfl, by decide +kernel, by decide +kernel⟩
theorem t__law_rare : trSs G e__law_rare.N e__law_rare.fu e__law_rare.gu (defScope (topS 15)) (defBody (topS 15)) = some e__law_rare.body := by rfl
theorem s__law_rare : FnScope e__law_rare.N e__law_rare.ps (defScope (topS 15)) := ⟨rfl, rfl, rfl, by decide +kernel, rfl, by decide +kernel, by decide +kernel⟩
theorem t__law_is_int : trSs G e__law_is_int.N e__law_is_int.fu e__law_is_int.gu (defScope (topS 16)) (defBody (topS 16)) = some e__law_is_int.body := by rfl
theorem s__law_is_int : FnScope e__law_is_int.N e__law_is_int.ps (defScope (topS 16)) := ⟨rfl, rfl, rfl, by decide +kernel, rfl, by decide +kernel, by decide +kernel⟩
theorem t__law_is_ints : trSs G e__law_is_ints.N e__law_is_ints.fu e__law_is_ints.gu (defScope (topS 17)) (defBody (topS 17)) = some e__law_is_ints.body := by rfl
theorem s__law_is_ints : FnScope e__law_is_ints.N e__law_is_ints.ps (defScope (topS 17)) := ⟨rfl, rfl, rfl, by decide +kernel, rfl, by decide +kernel, by decide +kernel⟩
theorem t__law_book : trSs G e__law_book.N e__law_book.fu e__law_book.gu (defScope (topS 18)) (defBody (topS 18)) = some e__law_book.body := by rfl
theorem s__law_book : FnScope e__law_book.N e__law_book.ps (defScope (topS 18)) := ⟨rfl, rfl, rfl, by decide +kernel, rfl, by decide +kernel, by decide +kernel⟩
theorem t__law_is_book : trSs G e__law_is_book.N e__law_is_book.fu e__law_is_book.gu (defScope (topS 19)) (defBody (topS 19)) = some e__law_is_book.body := by rfl
theorem s__law_is_book : FnScope e__law_is_book.N e__law_is_book.ps (defScope (topS 19)) := ⟨rfl, rfl, rfl, by decide +kernel, rfl, by decide +kernel, by decide +kernel⟩
theorem t__law_with : trSs G e__law_with.N e__law_with.fu e__law_with.gu (defScope (topS 20)) (defBody (topS 20)) = some e__law_with.body := by rfl
theorem s__law_with : FnScope e__law_with.N e__law_with.ps (defScope (topS 20)) := ⟨rfl, rfl, rfl, by decide +kernel, rfl, by decide +kernel, by decide +kernel⟩
theorem t__law_changed : trSs G e__law_changed.N e__law_changed.fu e__law_changed.gu (defScope (topS 21)) (defBody (topS 21)) = some e__law_changed.body := by rfl
theorem s__law_changed : FnScope e__law_changed.N e__law_changed.ps (defScope (topS 21)) := ⟨rfl, rfl, rfl, by decide +kernel, rfl, by decide +kernel, by decide +kernel⟩
theorem t__law_says : trSs G e__law_says.N e__law_says.fu e__law_says.gu (defScope (topS 22)) (defBody (topS 22)) = some e__law_says.body := by rfl
theorem s__law_says : FnScope e__law_says.N e__law_says.ps (defScope (topS 22)) := ⟨rfl, rfl, rfl, by decide +kernel, rfl, by decide +kernel, by decide +kernel⟩
theorem t__law_runs : trSs G e__law_runs.N e__law_runs.fu e__law_runs.gu (defScope (topS 23)) (defBody (topS 23)) = some e__law_runs.body := by rfl
theorem s__law_runs : FnScope e__law_runs.N e__law_runs.ps (defScope (topS 23)) := ⟨rfl, rfl, rfl, by decide +kernel, rfl, by decide +kernel, by decide +kernel⟩
theorem t_law : trSs G e_law.N e_law.fu e_law.gu (defScope (topS 24)) (defBody (topS 24)) = some e_law.body := by rfl
theorem s_law : FnScope e_law.N e_law.ps (defScope (topS 24)) := ⟨rfl, rfl, rfl, by decide +kernel, rfl, by decide +kernel, by decide +kernel⟩
end Law


set_option linter.all false
set_option maxRecDepth 100000
set_option maxHeartbeats 4000000
namespace Law
open PySem L2 Ev
def fuel : Nat := 0
noncomputable abbrev R (k : Nat) := run (progOf T) gl fuel k
noncomputable abbrev C (k : Nat) : Cfg := ⟨R k, gl, fuel⟩
theorem gl_cost : gl "MOST_COST" = some (.int 9999) := rfl
theorem gl_kinds : gl "MOST_KINDS" = some (.int 6) := rfl
theorem gl_states : gl "MOST_STATES" = some (.int 24) := rfl
theorem is_whole_ok (k : Nat) : fnIs (C (k + 1)) "is_whole" isI := fun A x g => by
  show R (k + 1) "is_whole" [x] A = _
  rw [R, run_eq (e := e_is_whole) rfl A rfl]; exact whole_ev _ g
theorem law_is_int_ok (k : Nat) : fnIs (C (k + 1)) "_law_is_int" isI := fun A x g => by
  show R (k + 1) "_law_is_int" [x] A = _
  rw [R, run_eq (e := e__law_is_int) rfl A rfl]; exact whole_ev _ g
theorem is_pair_ok (k : Nat) {A : AH} {x : AV} (g : Good A x) (n : Int) : R (k + 2) "is_pair" [x, .int n] A = .ok (.bl (pairB n x)) A := by
  rw [R, run_eq (e := e_is_pair) rfl A rfl]; exact pair_ev (C (k + 1)) g n (is_whole_ok k) gl_cost
theorem law_is_ints_ok (k : Nat) {A : AH} {x : AV} (g : Good A x) : R (k + 2) "_law_is_ints" [x] A = .ok (.bl (intsB x)) A := by
  rw [R, run_eq (e := e__law_is_ints) rfl A rfl]; exact ints_ev (C (k + 1)) g (law_is_int_ok k)
theorem is_book_ok (k : Nat) {A : AH} {x : AV} (g : Good A x) : R (k + 3) "is_book" [x] A = .ok (.bl (bookB x)) A := by
  rw [R, run_eq (e := e_is_book) rfl A rfl]
  refine book_ev (C (k + 2)) (.glob "MOST_STATES") (.glob "MOST_KINDS") [.if_ (.not (.call "is_pair" [(.var 2), (.bif .len [(.var 0)])] [])) [.ret (.lit (.bl false))] []] (fun σ => by simp [gl_states]) (fun σ => by simp [gl_kinds]) g fun X zs z gz => ?_
  have := is_pair_ok k gz X.length
  cases h : pairB X.length z <;> simp [this, h]
theorem law_is_book_ok (k : Nat) {A : AH} {x : AV} (g : Good A x) : R (k + 3) "_law_is_book" [x] A = .ok (.bl (bookB x)) A := by
  rw [R, run_eq (e := e__law_is_book) rfl A rfl]
  refine book_ev (C (k + 2)) (.lit (.int 24)) (.lit (.int 6)) [.if_ (.or (.not (.call "_law_is_ints" [(.var 2)] [])) (.cmp .ne (.bif .len [(.var 2)]) (.lit (.int 2)))) [.ret (.lit (.bl false))] [],
        .if_ (.or (.not (.chain .le .lt (.lit (.int 0)) (.ix (.var 2) (.lit (.int 0))) (.bif .len [(.var 0)]))) (.not (.chain .le .le (.neg (.lit (.int 9999))) (.ix (.var 2) (.lit (.int 1))) (.lit (.int 9999))))) [.ret (.lit (.bl false))] []] (fun σ => by simp) (fun σ => by simp) g fun X zs z gz => ?_
  have := law_is_ints_ok k gz
  cases hz : isT z with
  | false =>
    have h1 : intsB z = false := by cases z <;> first | rfl | cases hz
    have h2 : pairB X.length z = false := by cases z <;> first | rfl | cases hz
    simp [this, h1, h2]
  | true =>
    obtain ⟨ys, rfl⟩ := isT_cases hz
    cases h1 : intsB (.tup ys) with
    | false =>
      have h2 : pairB X.length (.tup ys) = false := by
        match ys, h1 with
        | [], _ => rfl
        | [_], _ => simp [pairB]
        | [a, b], h => cases a <;> cases b <;> simp_all [pairB, intsB, isI]
        | _ :: _ :: _ :: _, _ => simp [pairB]
      simp [this, h1, h2]
    | true =>
      by_cases hl : ys.length = 2
      · obtain ⟨a, b, rfl⟩ := two_cases hl
        simp only [intsB, List.all_cons, List.all_nil, Bool.and_true, Bool.and_eq_true] at h1
        obtain ⟨i, rfl⟩ := isI_cases h1.1
        obtain ⟨j, rfl⟩ := isI_cases h1.2
        have h1 : intsB (.tup [.int i, .int j]) = true := rfl
        simp [this, h1, ixTup, atI0, atI1]
        by_cases q1 : 0 ≤ i <;> by_cases q2 : i < X.length <;> by_cases q3 : -9999 ≤ j <;> by_cases q4 : j ≤ 9999 <;> simp [q1, q2, q3, q4, pairB, ixTup, atI0, atI1]
      · have hl' : ¬((ys.length : Int) = 2) := by omega
        have h2 : pairB X.length (.tup ys) = false := by
          match ys, hl with
          | [], _ => rfl
          | [_], _ => simp [pairB]
          | [_, _], h => exact absurd rfl h
          | _ :: _ :: _ :: _, _ => simp [pairB]
        simp [this, h1, h2, hl']
theorem draw_is (k : Nat) : drawIs (C (k + 1)) := fun A d many h h0 hl => by
  show ∃ v A', R (k + 1) "_law_draw" [.ref d, .int many] A = _ ∧ _
  rw [R, run_eq (e := e__law_draw) rfl A rfl]
  exact draw_ev2 (C k) h h0 hl
theorem pick_is (k : Nat) : pickIs (C (k + 2)) := fun A d row xs h hs hd hx hl => by
  show ∃ v A', R (k + 2) "_law_pick" [.ref d, row] A = _ ∧ _
  rw [R, run_eq (e := e__law_pick) rfl A rfl]
  exact pick_ev (C (k + 1)) (draw_is k) h hs hd hx hl
theorem rare_is (k : Nat) : rareIs (C (k + 2)) := fun A d many h h0 hl => by
  show ∃ v A', R (k + 2) "_law_rare" [.ref d, .int many] A = _ ∧ _
  rw [R, run_eq (e := e__law_rare) rfl A rfl]
  exact rare_ev (C (k + 1)) (draw_is k) h h0 hl
section
variable {bk : List (List (Int × Int))} {kinds states : Nat} {lo hi : Int} {row : List Int}
theorem cost_ok (k : Nat) (A : AH) (h : BkOk bk kinds states lo hi) (hs : 0 < states) (hr : inB row kinds) : R (k + 1) "cost_of" [bookV bk, rowI row] A = .ok (.int (adOf bk 0 row).sum) A := by
  rw [R, run_eq (e := e_cost_of) rfl A rfl]; exact cost_ev _ A h hs hr
theorem after_ok (k : Nat) (A : AH) (h : BkOk bk kinds states lo hi) (hs : 0 < states) (hr : inB row kinds) : R (k + 1) "state_after" [bookV bk, rowI row] A = .ok (.int (stOf bk 0 row)) A := by
  rw [R, run_eq (e := e_state_after) rfl A rfl]; exact after_ev _ A h hs hr
theorem adds_ok (k : Nat) (A : AH) (h : BkOk bk kinds states lo hi) (hs : 0 < states) (hr : inB row kinds) (hz : row.length ≤ 1000000) : ∃ G, R (k + 1) "adds_of" [bookV bk, rowI row] A = .ok (rowI (adOf bk 0 row)) (A ++ G) := by
  rw [R, run_eq (e := e_adds_of) rfl A rfl]; exact adds_ev _ A h hs hr hz
theorem good_ints (A : AH) (xs : List Int) (h : xs.length ≤ 1000000) : Good A (rowI xs) := .tup (fun z hz => by obtain ⟨i, _, rfl⟩ := List.mem_map.mp hz; exact .int i) (by rw [List.length_map]; exact Nat.le_of_lt (size_big h))
theorem intsB_ints (xs : List Int) : intsB (rowI xs) = true := by
  simp only [intsB, rowI, List.all_map, List.all_eq_true]
  intro x _
  rfl
theorem runs_ok (k : Nat) (A : AH) (h : BkOk bk kinds states lo hi) (hs : 0 < states) (hr : inB row kinds) (hz : row.length ≤ 1000000) : ∃ G, R (k + 3) "_law_runs" [bookV bk, rowI row] A = .ok (.bl true) (A ++ G) := by
  rw [R, run_eq (e := e__law_runs) rfl A rfl]
  have hA : (A ++ [AO.lst []])[A.length]? = some (.lst []) := by simp
  obtain ⟨o4, o5, h1⟩ := addsLoop (C (k + 2)) (A ++ [.lst []]) A.length 2 3 4 5 h hs hr hz [none, none] none none hA ⟨rfl, rfl, rfl, rfl⟩
  have e : (A ++ [AO.lst []]).set A.length (.lst ((adOf bk 0 row).map .int)) = A ++ [.lst ((adOf bk 0 row).map .int)] := by simp
  rw [e] at h1
  generalize hB : A ++ [AO.lst ((adOf bk 0 row).map AV.int)] = B at h1
  have hBn : B[A.length]? = some (.lst ((adOf bk 0 row).map .int)) := by rw [← hB]; simp
  have c1 : R (k + 2) "cost_of" _ B = _ := cost_ok (k + 1) B h hs hr
  have c2 : R (k + 2) "state_after" _ B = _ := after_ok (k + 1) B h hs hr
  have h2 : 2 ≤ sizeLine := Nat.le_of_lt (size_big (by omega))
  -- told
  generalize hT : B ++ [AO.lst [.int (adOf bk 0 row).sum, .int (stOf bk 0 row)]] = D
  have hDt : D[B.length]? = some (.lst ([(adOf bk 0 row).sum, stOf bk 0 row].map .int)) := by rw [← hT]; simp
  have hDn : D[A.length]? = some (.lst ((adOf bk 0 row).map .int)) := by rw [← hT, List.getElem?_append_left (List.getElem?_eq_some_iff.mp hBn).1]; exact hBn
  have hall : ∀ σ : Sl, evL (C (k + 2)) (.comp [7] (.v (.var 6)) (.name 7) (.lit (.bl true)) (.call "_law_is_int" [(.var 7)] [])) [some (bookV bk), some (rowI row), some (.int (stOf bk 0 row)), some (.ref A.length), o4, o5, some (.ref B.length), none] D = .ok [.bl true, .bl true] D := fun _ => by
    rw [compO (xs := [.int (adOf bk 0 row).sum, .int (stOf bk 0 row)]) (n := B.length) (A' := D) rfl hDt]
    refine comp_map (fun _ => .bl true) h2 (chk_obj hDt) fun x hx => ⟨_, rfl, rfl, ?_⟩
    obtain ⟨i, rfl⟩ : ∃ i, x = .int i := by
      rcases List.mem_cons.mp hx with h | h
      · exact ⟨_, h⟩
      · exact ⟨_, List.mem_singleton.mp h⟩
    have : R (k + 2) "_law_is_int" [.int i] D = .ok (.bl true) D := law_is_int_ok (k + 1) D (.int i) (.int i)
    simp [wipeS, this]
  have hbo : boolsOf [.bl true, .bl true] = some [true, true] := rfl
  have hsum : aBif (.lfof .sum) [.ref A.length] D = .ok (.int (adOf bk 0 row).sum) D := by
    have : intsOf ((adOf bk 0 row).map AV.int) = some (adOf bk 0 row) := by
      generalize adOf bk 0 row = l
      induction l with
      | nil => rfl
      | cons x r ih => simp only [List.map_cons, intsOf, ih, Option.map_some]
    simp only [aBif, lstOf, hDn, aLF, this]
  generalize hE : D ++ [AO.lst [.int (adOf bk 0 row).sum, .int (stOf bk 0 row)]] = F
  have hFt : F[B.length]? = some (.lst ([(adOf bk 0 row).sum, stOf bk 0 row].map .int)) := by rw [← hE, List.getElem?_append_left (List.getElem?_eq_some_iff.mp hDt).1]; exact hDt
  have hFn : F[A.length]? = some (.lst ((adOf bk 0 row).map .int)) := by rw [← hE, List.getElem?_append_left (List.getElem?_eq_some_iff.mp hDn).1]; exact hDn
  have hFd : F[D.length]? = some (.lst ([(adOf bk 0 row).sum, stOf bk 0 row].map .int)) := by rw [← hE]; simp
  have hne := ne_lints F hFt hFd
  rw [decide_eq_true rfl] at hne
  obtain ⟨G1, (g1 : R (k + 2) "adds_of" _ F = _)⟩ := adds_ok (k + 1) F h hs hr hz
  have i1 := law_is_ints_ok k (good_ints (F ++ G1) (adOf bk 0 row) (by rw [adOf_len]; exact hz))
  rw [intsB_ints] at i1
  obtain ⟨G2, (g2 : R (k + 2) "adds_of" _ (F ++ G1) = _)⟩ := adds_ok (k + 1) (F ++ G1) h hs hr hz
  have hGn : (F ++ G1 ++ G2)[A.length]? = some (.lst ((adOf bk 0 row).map .int)) := by
    have := (List.getElem?_eq_some_iff.mp hFn).1
    rw [List.append_assoc, List.getElem?_append_left this]; exact hFn
  have heq := eq_tints (F ++ G1 ++ G2) (adOf bk 0 row) (adOf bk 0 row)
  rw [decide_eq_true rfl] at heq
  have i1 : R (k + 2) "_law_is_ints" [rowI (adOf bk 0 row)] (F ++ G1) = .ok (.bl true) (F ++ G1) := i1
  have htup : aBif .tupof [.ref A.length] (F ++ G1 ++ G2) = .ok (rowI (adOf bk 0 row)) (F ++ G1 ++ G2) := tupof_seq (seq_ref hGn)
  have heq : aCmp .eq (rowI (adOf bk 0 row)) (rowI (adOf bk 0 row)) (F ++ G1 ++ G2) = some true := heq
  have hfin : F ++ G1 ++ G2 = A ++ ([AO.lst ((adOf bk 0 row).map AV.int)] ++ [AO.lst [.int (adOf bk 0 row).sum, .int (stOf bk 0 row)]] ++ [AO.lst [.int (adOf bk 0 row).sum, .int (stOf bk 0 row)]] ++ G1 ++ G2) := by
    rw [← hE, ← hT, ← hB]; simp
  refine ⟨[AO.lst ((adOf bk 0 row).map AV.int)] ++ [AO.lst [.int (adOf bk 0 row).sum, .int (stOf bk 0 row)]] ++ [AO.lst [.int (adOf bk 0 row).sum, .int (stOf bk 0 row)]] ++ G1 ++ G2, ?_⟩
  rw [← hfin]
  have hall' := hall []
  simp only [List.cons_append, List.nil_append] at h1
  simp [e__law_runs, b__law_runs, h1, c1, c2, h2, hT, hall', aLF, hbo, hsum, hE, hne, g1, i1, g2, htup, heq, -List.append_assoc]
end
end Law


set_option linter.all false
set_option maxRecDepth 100000
set_option maxHeartbeats 4000000
namespace Law
open PySem L2 Ev
theorem says_ok (k : Nat) {A : AH} {x : AV} (g : Good A x) : R (k + 4) "_law_says" [x] A = .ok (.bl true) A := by
  rw [R, run_eq (e := e__law_says) rfl A rfl]
  have h1 := is_book_ok k g
  have h2 := law_is_book_ok k g
  have h3 := Good.b (A := A) (.bl (bookB x))
  simp [e__law_says, b__law_says, h1, h2, h3, isB]
@[simp] theorem aSl_tup (xs : List AV) (lo hi : Option Int) (A : AH) : aSl (.tup xs) lo hi A = .ok (.tup (cut xs lo hi)) A := id rfl
theorem add_tup {xs ys : List AV} (A : AH) (h : xs.length + ys.length ≤ sizeLine) : aBin .add (.tup xs) (.tup ys) A = .ok (.tup (xs ++ ys)) A := by simp only [aBin, if_pos h]
theorem mul_tup1 (x : AV) (k : Int) (A : AH) (h : 2 ≤ k ∧ k ≤ 1000) : aBin .mul (.tup [x]) (.int k) A = .ok (.tup (List.replicate k.toNat x)) A := by
  have : [x] ≠ [] ∧ 2 ≤ k ∧ k ≤ 1000 ∧ [x].length ≤ 1000 := ⟨by simp, h.1, h.2, by simp⟩
  simp only [aBin, if_pos this, List.flatten_replicate_singleton]
theorem cut_mem {xs : List AV} {lo hi : Option Int} {x : AV} (h : x ∈ cut xs lo hi) : x ∈ xs := List.mem_of_mem_drop (List.mem_of_mem_take h)
theorem cut_len (xs : List AV) (lo hi : Option Int) : (cut xs lo hi).length ≤ xs.length := by
  unfold cut
  rw [List.length_take, List.length_drop]
  omega
theorem good_rep (A : AH) (n : Nat) (x : AV) (h : n ≤ 1000000) (g : Good A x) : Good A (.tup (List.replicate n x)) :=
  .tup (fun z hz => by rw [(List.mem_replicate.mp hz).2]; exact g) (by rw [List.length_replicate]; exact Nat.le_of_lt (size_big h))
theorem good_pair (A : AH) (p : Int × Int) : Good A (pairV p) := .tup (fun z hz => by
  rcases List.mem_cons.mp hz with h | h
  · rw [h]; exact .int _
  · rw [List.mem_singleton.mp h]; exact .int _) (Nat.le_of_lt (size_big (by show 2 ≤ 1000000; omega)))
section
variable {bk : List (List (Int × Int))} {kinds states : Nat} {lo hi : Int}
theorem good_row (A : AH) {r : List (Int × Int)} (h : r.length ≤ 1000000) : Good A (rowV r) := .tup (fun z hz => by
  obtain ⟨p, _, rfl⟩ := List.mem_map.mp hz
  exact good_pair A p) (by rw [List.length_map]; exact Nat.le_of_lt (size_big h))
theorem good_book (A : AH) (h : BkOk bk kinds states lo hi) (hk : kinds ≤ 1000) (hs : states ≤ 1000) : Good A (bookV bk) := .tup (fun z hz => by
  obtain ⟨r, hr, rfl⟩ := List.mem_map.mp hz
  exact good_row A (by rw [(h.row r hr).1]; omega)) (by rw [List.length_map, h.len]; exact Nat.le_of_lt (size_big (by omega)))
theorem listof_seq {A : AH} {x : AV} {xs : List AV} (h : seqOf A x = some xs) : aBif .listof [x] A = .ok (.ref A.length) (A ++ [.lst xs]) := by simp only [aBif, h]
theorem with_ok (k : Nat) {A : AH} {d : Nat} (hd : Dr A d) {s j : Nat} {v : AV} (h : BkOk bk kinds states lo hi) (hk : kinds ≤ 1000) (hs : states ≤ 1000) (h1 : s < states) (h2 : j < kinds) (g : Good A v) :
    ∃ x A', R (k + 1) "_law_with" [bookV bk, .int s, .int j, v] A = .ok x A' ∧ Good A' x ∧ Fr d A A' := by
  rw [R, run_eq (e := e__law_with) rfl A rfl]
  have hbl : bk.length ≤ sizeLine := by rw [h.len]; exact Nat.le_of_lt (size_big (by omega))
  -- rows
  have c1 : ∃ acc A', evL (C k) (.comp [5] (.v (.var 0)) (.name 5) (.lit (.bl true)) (.bif .listof [(.var 5)])) [some (bookV bk), some (.int s), some (.int j), some v, none, none] A = .ok acc A' ∧
      acc = (List.range (bk.map rowV).length).map (fun i => AV.ref (A.length + i)) ∧ A' = A ++ (bk.take (bk.map rowV).length).map fun r => AO.lst (r.map pairV) := by
    rw [compV (xs := bk.map rowV) rfl]
    refine comp_run (fun i acc A' => acc = (List.range i).map (fun i => AV.ref (A.length + i)) ∧ A' = A ++ (bk.take i).map fun r => AO.lst (r.map pairV)) ⟨rfl, by simp⟩ (by rw [List.length_map]; exact hbl) (fun i acc A' hi ⟨e, _⟩ => ⟨rfl, by rw [e]; simp⟩) (fun i x acc A' hx ⟨e1, e2⟩ => ?_)
    rw [List.getElem?_map] at hx
    obtain ⟨r, hr, rfl⟩ := Option.map_eq_some_iff.mp hx
    have hi := (List.getElem?_eq_some_iff.mp hr).1
    refine ⟨_, _, true, A', rfl, rfl, ?_⟩
    rw [if_pos rfl]
    refine ⟨.ref A'.length, A' ++ [.lst (r.map pairV)], by simp [wipeS]; rw [listof_seq (xs := r.map pairV) rfl], ?_, ?_⟩
    · rw [e1, e2, List.range_succ, List.map_append]
      simp
      omega
    · rw [e2, List.take_succ, hr]
      simp
  obtain ⟨acc, A1, e1, rfl, rfl⟩ := c1
  rw [List.length_map, List.take_length] at e1
  generalize hA1 : (A ++ bk.map fun r => AO.lst (r.map pairV)) = A1 at e1
  generalize hrf : (List.range bk.length).map (fun i => AV.ref (A.length + i)) = refs at e1
  have hA1l : A1.length = A.length + bk.length := by rw [← hA1]; simp
  have hn : (A1 ++ [AO.lst refs])[A1.length]? = some (.lst refs) := by simp
  obtain ⟨r, hr⟩ : ∃ r, bk[s]? = some r := ⟨bk[s]'(by rw [h.len]; exact h1), List.getElem?_eq_getElem _⟩
  have hrm := List.mem_of_getElem? hr
  have hrow : ∀ i r', bk[i]? = some r' → (A1 ++ [AO.lst refs])[A.length + i]? = some (.lst (r'.map pairV)) := fun i r' hr' => by
    have hi := (List.getElem?_eq_some_iff.mp hr').1
    rw [List.getElem?_append_left (by omega), ← hA1, List.getElem?_append_right (by omega), Nat.add_sub_cancel_left, List.getElem?_map, hr']
    rfl
  have hs1 := hrow s r hr
  have hix : aIx (.ref A1.length) (.int s) (A1 ++ [AO.lst refs]) = some (.ref (A.length + s)) := by
    rw [ix_ref hn]
    have : refs[s]? = some (.ref (A.length + s)) := by
      rw [← hrf, List.getElem?_map, List.getElem?_range (by rw [h.len]; exact h1)]; rfl
    exact atI_nat this
  have hset : aSet (.ref (A.length + s)) (.int j) v (A1 ++ [AO.lst refs]) = some ((A1 ++ [AO.lst refs]).set (A.length + s) (.lst ((r.map pairV).set j v))) := by
    have hj : (j : Int) < ((r.map pairV).length : Int) := by rw [List.length_map, (h.row r hrm).1]; omega
    simp only [aSet, hs1, ixN, if_pos (show (0 : Int) ≤ (j : Int) by omega), if_pos hj, Int.toNat_natCast]
  generalize hA2 : (A1 ++ [AO.lst refs]).set (A.length + s) (.lst ((r.map pairV).set j v)) = A2 at hset
  have hA2l : A2.length = A1.length + 1 := by rw [← hA2]; simp
  have hn2 : A2[A1.length]? = some (.lst refs) := by
    have hsl : s < bk.length := by rw [h.len]; exact h1
    rw [← hA2, List.getElem?_set_ne (by omega)]; exact hn
  have gv : Good A2 v := g.mono (by omega)
  have hrow2 : ∀ i, i < bk.length → ∃ ys, A2[A.length + i]? = some (.lst ys) ∧ Good A2 (.tup ys) := fun i hi => by
    by_cases e : i = s
    · subst e
      refine ⟨(r.map pairV).set j v, by rw [← hA2, List.getElem?_set_self (by simp; omega)], .tup (fun z hz => ?_) ?_⟩
      · rcases List.mem_or_eq_of_mem_set hz with q | q
        · obtain ⟨p, _, rfl⟩ := List.mem_map.mp q
          exact good_pair _ _
        · rw [q]; exact gv
      · rw [List.length_set, List.length_map, (h.row r hrm).1]
        exact Nat.le_of_lt (size_big (by omega))
    · have hi2 : bk[i]? = some bk[i] := List.getElem?_eq_getElem hi
      refine ⟨_, by rw [← hA2, List.getElem?_set_ne (by omega)]; exact hrow i _ hi2, ?_⟩
      exact good_row A2 (by rw [(h.row _ (List.getElem_mem hi)).1]; omega)
  have c2 : ∃ acc A', evL (C k) (.comp [5] (.v (.var 4)) (.name 5) (.lit (.bl true)) (.bif .tupof [(.var 5)])) [some (bookV bk), some (.int s), some (.int j), some v, some (.ref A1.length), none] A2 = .ok acc A' ∧
      A' = A2 ∧ acc.length = refs.length ∧ ∀ z ∈ acc, Good A2 z := by
    rw [compO (xs := refs) (n := A1.length) (A' := A2) rfl hn2]
    have hrl : refs.length = bk.length := by rw [← hrf]; simp
    refine comp_run (fun i acc A' => A' = A2 ∧ acc.length = i ∧ ∀ z ∈ acc, Good A2 z) ⟨rfl, rfl, fun z hz => by cases hz⟩ (by rw [hrl]; exact hbl) (fun i acc A' hi ⟨e, e2, _⟩ => ⟨by rw [e]; exact chk_obj hn2, Nat.le_of_eq e2⟩) (fun i x acc A' hx ⟨e1, e2, e3⟩ => ?_)
    subst e1
    have hi := (List.getElem?_eq_some_iff.mp hx).1
    have hx2 : x = .ref (A.length + i) := by
      rw [← hrf, List.getElem?_map, List.getElem?_range (by omega)] at hx
      exact (Option.some.inj hx).symm
    subst hx2
    obtain ⟨ys, h3, h4⟩ := hrow2 i (by omega)
    refine ⟨_, _, true, A', rfl, rfl, ?_⟩
    rw [if_pos rfl]
    refine ⟨.tup ys, A', by simp [wipeS, tupof_seq (seq_ref h3)], rfl, by simp [e2], fun z hz => ?_⟩
    rcases List.mem_append.mp hz with q | q
    · exact e3 z q
    · rw [List.mem_singleton.mp q]; exact h4
  obtain ⟨acc, A3, e2, rfl, hal, hag⟩ := c2
  have hrl : refs.length = bk.length := by rw [← hrf]; simp
  refine ⟨.tup acc, A3, ?_, .tup hag (by rw [hal, hrl]; exact hbl), ?_⟩
  · simp [e__law_with, b__law_with, e1, hix, hset, e2, aLF]
  · have F1 : Fr d A (A1 ++ [AO.lst refs]) := by
      rw [← hA1, List.append_assoc]
      exact Fr.app hd _
    rw [← hA2]
    exact F1.setNew hd.lt (by omega) _
theorem good_cut {A : AH} {xs : List AV} (g : Good A (.tup xs)) (lo hi : Option Int) : Good A (.tup (cut xs lo hi)) :=
  .tup (fun z hz => g.all z (cut_mem hz)) (Nat.le_trans (cut_len xs lo hi) g.len)
theorem good_app {A : AH} {xs ys : List AV} (g : Good A (.tup xs)) (g2 : Good A (.tup ys)) (h : xs.length + ys.length ≤ sizeLine) : Good A (.tup (xs ++ ys)) :=
  .tup (fun z hz => (List.mem_append.mp hz).elim (g.all z) (g2.all z)) (by rw [List.length_append]; exact h)
theorem good_one {A : AH} {x : AV} (g : Good A x) : Good A (.tup [x]) := .tup (fun z hz => by rw [List.mem_singleton.mp hz]; exact g) (Nat.le_of_lt (size_big (by show 1 ≤ 1000000; omega)))
theorem good_two {A : AH} {x y : AV} (g : Good A x) (g2 : Good A y) : Good A (.tup [x, y]) := good_app (xs := [x]) (ys := [y]) (good_one g) (good_one g2) (Nat.le_of_lt (size_big (by show 1 + 1 ≤ 1000000; omega)))
theorem good_three {A : AH} {x y w : AV} (g : Good A x) (g2 : Good A y) (g3 : Good A w) : Good A (.tup [x, y, w]) := good_app (xs := [x]) (ys := [y, w]) (good_one g) (good_two g2 g3) (Nat.le_of_lt (size_big (by show 1 + 2 ≤ 1000000; omega)))
theorem good_nil {A : AH} : Good A (.tup []) := .tup (fun z hz => by cases hz) (Nat.zero_le _)
theorem le_size {n : Nat} (h : n ≤ 1000000) : n ≤ sizeLine := Nat.le_of_lt (size_big h)
theorem changed_ok (k : Nat) {A : AH} {d : Nat} (hd : Dr A d) (h : BkOk bk kinds states lo hi) (hk0 : 0 < kinds) (hk : kinds ≤ 1000) (hs0 : 0 < states) (hs : states ≤ 1000) :
    ∃ x A', R (k + 3) "_law_changed" [.ref d, bookV bk] A = .ok x A' ∧ Good A' x ∧ Fr d A A' := by
  rw [R, run_eq (e := e__law_changed) rfl A rfl]
  obtain ⟨s, A1, e1, s0, s1, F1⟩ := draw_is (k + 1) A d states hd (by omega) (by omega)
  have e1 : R (k + 2) "_law_draw" [.ref d, .int states] A = .ok (.int s) A1 := e1
  have hb0 : 0 < bk.length := by rw [h.len]; exact hs0
  have hr0 := (h.row bk[0] (List.getElem_mem hb0)).1
  have i0 : ∀ A, aIx (bookV bk) (.int 0) A = some (rowV bk[0]) := fun A => atI_nat (j := 0) (by rw [List.getElem?_map, List.getElem?_eq_getElem hb0]; rfl)
  obtain ⟨j, A2, e2, j0, j1, F2⟩ := draw_is (k + 1) A1 d kinds F1.dr (by omega) (by omega)
  have e2 : R (k + 2) "_law_draw" [.ref d, .int kinds] A1 = .ok (.int j) A2 := e2
  have l0 : ∀ A, aBif .len [bookV bk] A = .ok (.int states) A := fun A => by
    have : (bk.map rowV).length = states := by rw [List.length_map, h.len]
    show Res.ok (AV.int ((bk.map rowV).length : Nat)) A = _
    rw [this]
  have l1 : ∀ A, aBif .len [rowV bk[0]] A = .ok (.int kinds) A := fun A => by
    have : (bk[0].map pairV).length = kinds := by rw [List.length_map, hr0]
    show Res.ok (AV.int ((bk[0].map pairV).length : Nat)) A = _
    rw [this]
  obtain ⟨r, i1, i2, _, _⟩ := nx_ok h s0 s1 j0 j1 A2
  generalize hp : nx bk s j = p at i2
  have z1 : 1 ≤ sizeLine := le_size (by omega)
  have z2 : 2 ≤ sizeLine := le_size (by omega)
  have z3 : 3 ≤ sizeLine := le_size (by omega)
  have z11 : 11 ≤ sizeLine := le_size (by omega)
  have z8 : 8 ≤ sizeLine := le_size (by omega)
  generalize hps : [AV.tup [.int states, .int p.2], .tup [.int (-1), .int p.2], .tup [.int p.1, .int 10000], .tup [.int p.1, .int (-10000)], .tup [.int p.1, .bl true], .tup [.int p.1], .ref A2.length, .tup [.int p.1, .int p.2, .int 0], .non, .tup [.int p.1, .int 9999], .tup [.int p.1, .int (-9999)]] = ps
  have hpl : ps.length = 11 := by rw [← hps]; rfl
  have hpz : ps.length ≤ sizeLine := by rw [hpl]; exact z11
  have F3 : Fr d A2 (A2 ++ [AO.lst [.int p.1, .int p.2], .lst ps]) := Fr.app F2.dr _
  generalize hA3 : A2 ++ [AO.lst [.int p.1, .int p.2], .lst ps] = A3 at F3
  have hA3n : A3[A2.length + 1]? = some (.lst ps) := by rw [← hA3]; simp
  have hA3l : A3.length = A2.length + 2 := by rw [← hA3]; simp
  have gps : ∀ z ∈ ps, Good A3 z := by
    rw [← hps]
    simp only [List.forall_mem_cons]
    exact ⟨good_two (.int _) (.int _), good_two (.int _) (.int _), good_two (.int _) (.int _), good_two (.int _) (.int _), good_two (.int _) (.bl _), good_one (.int _), .ref (by omega), good_three (.int _) (.int _) (.int _), .non, good_two (.int _) (.int _), good_two (.int _) (.int _), fun _ h => by cases h⟩
  obtain ⟨way, A4, e4, w0, w1, F4⟩ := draw_is (k + 1) A3 d 16 F3.dr (by omega) (by omega)
  have e4 : R (k + 2) "_law_draw" [.ref d, .int 16] A3 = .ok (.int way) A4 := e4
  have FA : Fr d A A4 := ((F1.trans F2).trans F3).trans F4
  have hd2 : d < A2.length := F2.dr.lt
  have hA4n : A4[A2.length + 1]? = some (.lst ps) := by rw [F4.old _ (by omega) (by omega)]; exact hA3n
  have gB : Good A4 (bookV bk) := good_book A4 h hk hs
  have pre : ∀ rest, evSs (C (k + 2)) ([.asg (.name 2) (.call "_law_draw" [(.var 0), (.bif .len [(.var 1)])] []),
    .asg (.name 3) (.call "_law_draw" [(.var 0), (.bif .len [(.ix (.var 1) (.lit (.int 0)))])] []),
    .asg (.tup [(.name 4), (.name 5)]) (.ix (.ix (.var 1) (.var 2)) (.var 3)),
    .asg (.name 6) (.new (.disp [(.tup [(.bif .len [(.var 1)]), (.var 5)]), (.tup [(.neg (.lit (.int 1))), (.var 5)]), (.tup [(.var 4), (.lit (.int 10000))]), (.tup [(.var 4), (.neg (.lit (.int 10000)))]), (.tup [(.var 4), (.lit (.bl true))]), (.tup [(.var 4)]), (.new (.disp [(.var 4), (.var 5)])), (.tup [(.var 4), (.var 5), (.lit (.int 0))]), (.lit (.non)), (.tup [(.var 4), (.lit (.int 9999))]), (.tup [(.var 4), (.neg (.lit (.int 9999)))])])),
    .asg (.name 7) (.call "_law_draw" [(.var 0), (.lit (.int 16))] [])] ++ rest) [some (.ref d), some (bookV bk), none, none, none, none, none, none] A = evSs (C (k + 2)) rest [some (.ref d), some (bookV bk), some (.int s), some (.int j), some (.int p.1), some (.int p.2), some (.ref (A2.length + 1)), some (.int way)] A4 := fun rest => by
      rw [evSs_append]
      simp [l0, e1, i0, l1, e2, i1, i2, pairV, z1, z2, z3, z11, hps, hpz, hA3, e4]
  have fin : ∀ {x A'}, (evSs (C (k + 2)) (b__law_changed.drop 5) [some (.ref d), some (bookV bk), some (.int s), some (.int j), some (.int p.1), some (.int p.2), some (.ref (A2.length + 1)), some (.int way)] A4).fin = .ok x A' → Good A' x → Fr d A4 A' →
      ∃ x A', (evSs (C (k + 2)) b__law_changed [some (.ref d), some (bookV bk), none, none, none, none, none, none] A).fin = .ok x A' ∧ Good A' x ∧ Fr d A A' := fun {x A'} q g F => by
    refine ⟨x, A', ?_, g, FA.trans F⟩
    rw [← q]
    exact congrArg Out.fin (pre (b__law_changed.drop 5))
  show ∃ x A', (evSs (C (k + 2)) b__law_changed [some (.ref d), some (bookV bk), none, none, none, none, none, none] A).fin = .ok x A' ∧ Good A' x ∧ Fr d A A'
  obtain ⟨n, rfl⟩ : ∃ n : Nat, s = n := ⟨s.toNat, by omega⟩
  obtain ⟨m, rfl⟩ : ∃ m : Nat, j = m := ⟨j.toNat, by omega⟩
  have i1 : aIx (bookV bk) (.int n) A4 = some (rowV r) := i1
  have gR : Good A4 (rowV r) := by
    obtain ⟨_, _, q, _⟩ := atI_get i1
    exact gB.at q
  have hrl : r.length = kinds := by
    obtain ⟨q0, _, q, _⟩ := atI_get i1
    rw [List.getElem?_map] at q
    obtain ⟨r', q1, q2⟩ := Option.map_eq_some_iff.mp q
    have q3 := (h.row r' (List.mem_of_getElem? q1)).1
    have q4 : (r'.map pairV).length = (r.map pairV).length := congrArg (fun x => match x with | AV.tup l => l.length | _ => 0) q2
    rw [List.length_map, List.length_map] at q4
    omega
  have hcut : ∀ lo hi, (cut (bk.map rowV) lo hi).length ≤ states := fun lo hi => by
    have := cut_len (bk.map rowV) lo hi
    rw [List.length_map, h.len] at this
    exact this
  have hcut2 : ∀ lo hi, (cut (r.map pairV) lo hi).length ≤ kinds := fun lo hi => by
    have := cut_len (r.map pairV) lo hi
    rw [List.length_map, hrl] at this
    exact this
  by_cases w : way < 11
  · obtain ⟨v, hv, hvm⟩ := atI_mem (xs := ps) (v := way) w0 (by rw [hpl]; exact w)
    have gv : Good A4 v := (gps v hvm).mono F4.len
    obtain ⟨x, A5, q1, q2, q3⟩ := with_ok (k + 1) (s := n) (j := m) F4.dr h hk hs (by omega) (by omega) gv
    have q1 : R (k + 2) "_law_with" [bookV bk, .int n, .int m, v] A4 = .ok x A5 := q1
    refine fin ?_ q2 q3
    simp [b__law_changed, w, ix_ref hA4n, hv, q1]
  by_cases w : way = 11
  · subst w
    have a1 := hcut2 none (some (m : Int))
    have a2 := hcut2 (some ((m : Int) + 1)) none
    have a3 := hcut none (some (n : Int))
    have a4 := hcut (some ((n : Int) + 1)) none
    have g1 := good_app (good_cut gR none (some (m : Int))) (good_cut gR (some ((m : Int) + 1)) none) (le_size (by omega))
    have g2 := good_app (good_cut gB none (some (n : Int))) (good_one g1) (le_size (by show _ + 1 ≤ _; omega))
    have g3 := good_app g2 (good_cut gB (some ((n : Int) + 1)) none) (le_size (by rw [List.length_append]; show _ + 1 + _ ≤ _; omega))
    refine fin ?_ g3 (Fr.refl F4.dr)
    have b1 := add_tup A4 (xs := cut (r.map pairV) none (some (m : Int))) (ys := cut (r.map pairV) (some ((m : Int) + 1)) none) (le_size (by omega))
    have b2 := add_tup A4 (xs := cut (bk.map rowV) none (some (n : Int))) (ys := [.tup (cut (r.map pairV) none (some (m : Int)) ++ cut (r.map pairV) (some ((m : Int) + 1)) none)]) (le_size (by show _ + 1 ≤ _; omega))
    have b3 := add_tup A4 (xs := cut (bk.map rowV) none (some (n : Int)) ++ [.tup (cut (r.map pairV) none (some (m : Int)) ++ cut (r.map pairV) (some ((m : Int) + 1)) none)]) (ys := cut (bk.map rowV) (some ((n : Int) + 1)) none) (le_size (by rw [List.length_append]; show _ + 1 + _ ≤ _; omega))
    have sB : ∀ lo hi, aSl (bookV bk) lo hi A4 = .ok (.tup (cut (bk.map rowV) lo hi)) A4 := fun _ _ => rfl
    have sR : ∀ lo hi, aSl (rowV r) lo hi A4 = .ok (.tup (cut (r.map pairV) lo hi)) A4 := fun _ _ => rfl
    simp [b__law_changed, sB, sR, i1, z1, b1, b2, b3, -List.append_assoc]
  by_cases w : way = 12
  · subst w
    generalize hA5 : A4 ++ [AO.lst (r.map pairV)] = A5
    have F5 : Fr d A4 A5 := by rw [← hA5]; exact Fr.app F4.dr _
    have gB := gB.mono F5.len
    have gN : Good A5 (.ref A4.length) := .ref (by rw [← hA5]; simp)
    have a3 := hcut none (some (n : Int))
    have a4 := hcut (some ((n : Int) + 1)) none
    have g2 := good_app (good_cut gB none (some (n : Int))) (good_one gN) (le_size (by show _ + 1 ≤ _; omega))
    have g3 := good_app g2 (good_cut gB (some ((n : Int) + 1)) none) (le_size (by rw [List.length_append]; show _ + 1 + _ ≤ _; omega))
    refine fin ?_ g3 F5
    have b2 := add_tup A5 (xs := cut (bk.map rowV) none (some (n : Int))) (ys := [.ref A4.length]) (le_size (by show _ + 1 ≤ _; omega))
    have b3 := add_tup A5 (xs := cut (bk.map rowV) none (some (n : Int)) ++ [.ref A4.length]) (ys := cut (bk.map rowV) (some ((n : Int) + 1)) none) (le_size (by rw [List.length_append]; show _ + 1 + _ ≤ _; omega))
    have sB : ∀ lo hi A, aSl (bookV bk) lo hi A = .ok (.tup (cut (bk.map rowV) lo hi)) A := fun _ _ _ => rfl
    have lo := listof_seq (A := A4) (x := rowV r) (xs := r.map pairV) rfl
    simp [b__law_changed, sB, i1, lo, hA5, z1, b2, b3, -List.append_assoc]
  by_cases w : way = 13
  · subst w
    have g0 : Good A4 (rowV bk[0]) := good_row A4 (by rw [hr0]; omega)
    refine fin ?_ (good_rep A4 25 _ (by omega) g0) (Fr.refl F4.dr)
    simp [b__law_changed, i0, z1, mul_tup1 (rowV bk[0]) 25 A4 (by decide)]
  by_cases w : way = 14
  · subst w
    refine fin ?_ (.ref (n := A4.length) ?_) (Fr.app F4.dr [.lst (bk.map rowV)])
    rotate_left
    · simp
    · have lo := listof_seq (A := A4) (x := bookV bk) (xs := bk.map rowV) rfl
      simp [b__law_changed, lo]
  · generalize hms : [AV.tup [], .non, .str "book", .int 0, .tup [.tup []], .tup [.tup (List.replicate 7 (.tup [.int 0, .int 0]))], .tup [.tup (List.replicate 6 (.tup [.int 0, .int 0]))], .tup (List.replicate 24 (.tup [.tup [.int 0, .int 0]]))] = ms
    have hml : ms.length = 8 := by rw [← hms]; rfl
    have hmz : ms.length ≤ sizeLine := by rw [hml]; exact z8
    generalize hA5 : A4 ++ [AO.lst ms] = A5
    have F5 : Fr d A4 A5 := by rw [← hA5]; exact Fr.app F4.dr _
    have hA5n : A5[A4.length]? = some (.lst ms) := by rw [← hA5]; simp
    have gms : ∀ z ∈ ms, Good A5 z := by
      rw [← hms]
      simp only [List.forall_mem_cons]
      exact ⟨good_nil, .non, .str _, .int _, good_one good_nil, good_one (good_rep _ _ _ (by omega) (good_two (.int _) (.int _))), good_one (good_rep _ _ _ (by omega) (good_two (.int _) (.int _))), good_rep _ _ _ (by omega) (good_one (good_two (.int _) (.int _))), fun _ h => by cases h⟩
    obtain ⟨x, A6, q1, q2, q3⟩ := pick_is k A5 d (.ref A4.length) ms F5.dr (seq_ref hA5n) (fun e => by have := F4.dr.lt; cases e; omega) (by intro e; rw [e] at hml; cases hml) (by omega)
    have q1 : R (k + 2) "_law_pick" [.ref d, .ref A4.length] A5 = .ok x A6 := q1
    refine fin ?_ ((gms x q2).mono q3.len) (F5.trans q3)
    have m1 := mul_tup1 (.tup [.int 0, .int 0]) 7 A4 (by decide)
    have m2 := mul_tup1 (.tup [.int 0, .int 0]) 6 A4 (by decide)
    have m3 := mul_tup1 (.tup [.tup [.int 0, .int 0]]) 24 A4 (by decide)
    have w1 : ¬ way < 11 := by omega
    have w2 : ¬ way = 11 := by omega
    have w3 : ¬ way = 12 := by omega
    have w4 : ¬ way = 13 := by omega
    simp [b__law_changed, w, w1, w2, w3, w4, z1, z2, m1, m2, m3, -List.reduceReplicate, hms, hmz, hA5, q1]
end
end Law


set_option linter.all false
set_option maxRecDepth 100000
set_option maxHeartbeats 4000000
namespace Law
open PySem L2 Ev
theorem cut_take (xs : List AV) (n : Nat) : cut xs none (some (n : Int)) = xs.take n := by
  unfold cut
  rw [HT.sIx_none, HT.sIx_nat, List.drop_zero, Nat.sub_zero, Nat.min_def]
  split
  · rfl
  · rw [List.take_length, List.take_of_length_le (by omega)]
theorem seg1 (k : Nat) (ns : List Int) (hl : ns.length ≤ 63) : ∃ (kinds states : Nat) (low : Int) (A' : AH), evSs (C (k + 4)) (b_law.take 6) [some (.fl (ns.map .int)), none, none, none, none, none, none, none, none] [] =
    .next [some (.fl (ns.map .int)), some (.ref 1), some (.int kinds), some (.int states), some (.int low), none, none, none, none] A' ∧ 0 < kinds ∧ kinds ≤ 6 ∧ 0 < states ∧ states ≤ 24 ∧ (low = -9 ∨ low = -9999) ∧ Dr A' 1 := by
  obtain ⟨A1, e1, D1⟩ := begin_ev (C (k + 3)) (A := []) (ns := ns) (Nat.le_of_lt (size_big (by omega)))
  have e1 : R (k + 4) "_law_begin" [.fl (ns.map .int)] [] = .ok (.ref 1) A1 := by
    rw [R, run_eq (e := e__law_begin) rfl [] rfl]; exact e1
  have D1 : Dr A1 1 := D1
  obtain ⟨v2, A2, e2, p2, q2, F2⟩ := draw_is (k + 3) A1 1 3 D1 (by omega) (by omega)
  have e2 : R (k + 4) "_law_draw" [.ref 1, .int 3] A1 = .ok (.int v2) A2 := e2
  obtain ⟨v3, A3, e3, p3, q3, F3⟩ := draw_is (k + 3) A2 1 4 F2.dr (by omega) (by omega)
  have e3 : R (k + 4) "_law_draw" [.ref 1, .int 4] A2 = .ok (.int v3) A3 := e3
  obtain ⟨b, A4, e4, F4⟩ := rare_is (k + 2) A3 1 9 F3.dr (by omega) (by omega)
  have e4 : R (k + 4) "_law_rare" [.ref 1, .int 9] A3 = .ok (.bl b) A4 := e4
  cases b with
  | true =>
    obtain ⟨v5, A5, e5, p5, q5, F5⟩ := draw_is (k + 3) A4 1 5 F4.dr (by omega) (by omega)
    have e5 : R (k + 4) "_law_draw" [.ref 1, .int 5] A4 = .ok (.int v5) A5 := e5
    obtain ⟨v6, A6, e6, p6, q6, F6⟩ := draw_is (k + 3) A5 1 3 F5.dr (by omega) (by omega)
    have e6 : R (k + 4) "_law_draw" [.ref 1, .int 3] A5 = .ok (.int v6) A6 := e6
    have hs : ((20 + v5).toNat : Int) = 20 + v5 := by omega
    by_cases h : v6 = 1
    · exact ⟨6, (20 + v5).toNat, -9999, A6, by simp [b_law, e1, e2, e3, e4, e5, e6, h, hs], by omega, by omega, by omega, by omega, .inr rfl, F6.dr⟩
    · exact ⟨6, (20 + v5).toNat, -9, A6, by simp [b_law, e1, e2, e3, e4, e5, e6, h, hs], by omega, by omega, by omega, by omega, .inl rfl, F6.dr⟩
  | false =>
    obtain ⟨v6, A6, e6, p6, q6, F6⟩ := draw_is (k + 3) A4 1 3 F4.dr (by omega) (by omega)
    have e6 : R (k + 4) "_law_draw" [.ref 1, .int 3] A4 = .ok (.int v6) A6 := e6
    have hk : ((1 + v2).toNat : Int) = 1 + v2 := by omega
    have hs : ((1 + v3).toNat : Int) = 1 + v3 := by omega
    by_cases h : v6 = 1
    · exact ⟨(1 + v2).toNat, (1 + v3).toNat, -9999, A6, by simp [b_law, e1, e2, e3, e4, e6, h, hs, hk], by omega, by omega, by omega, by omega, .inr rfl, F6.dr⟩
    · exact ⟨(1 + v2).toNat, (1 + v3).toNat, -9, A6, by simp [b_law, e1, e2, e3, e4, e6, h, hs, hk], by omega, by omega, by omega, by omega, .inl rfl, F6.dr⟩
theorem lbook_ok (k : Nat) {A : AH} {d kinds states : Nat} {low : Int} (h : Dr A d) (hk : kinds ≤ 6) (hs0 : 0 < states) (hs : states ≤ 24) (hlow : low = -9 ∨ low = -9999) :
    ∃ bk A', R (k + 2) "_law_book" [.ref d, .int kinds, .int states, .int low, .int (-low)] A = .ok (bookV bk) A' ∧ BkOk bk kinds states low (-low) ∧ Fr d A A' := by
  rw [R, run_eq (e := e__law_book) rfl A rfl]
  exact lbook_ev (C (k + 1)) (draw_is k) h (by omega) hs0 (by omega) (by omega) (by omega)
theorem inB_flat {row : List Int} {kinds : Nat} (h : inB row kinds) (n : Nat) : inB (List.replicate n row).flatten kinds := fun x hx => by
  obtain ⟨l, h1, h2⟩ := List.mem_flatten.mp hx
  rw [(List.mem_replicate.mp h1).2] at h2
  exact h x h2
theorem holds (ns : List Int) (hl : ns.length ≤ 63) : ∃ A', run (progOf T) gl fuel 12 "law" [.fl (ns.map AV.int)] [] = .ok (.bl true) A' := by
  rw [run_eq (e := e_law) rfl [] rfl]
  show ∃ A', (evSs (C 11) b_law [some (.fl (ns.map .int)), none, none, none, none, none, none, none, none] []).fin = .ok (.bl true) A'
  obtain ⟨kinds, states, low, A1, e1, k0, k1, s0, s1, hlow, D1⟩ := seg1 7 ns hl
  have es : b_law = b_law.take 6 ++ b_law.drop 6 := (List.take_append_drop 6 b_law).symm
  rw [es, evSs_append, e1, seq_next]
  -- the book
  obtain ⟨bk, A2, e2, hB, F2⟩ := lbook_ok 9 (low := low) D1 k1 s0 s1 hlow
  have e2 : R 11 "_law_book" [.ref 1, .int kinds, .int states, .int low, .int (-low)] A1 = .ok (bookV bk) A2 := e2
  -- the row
  obtain ⟨v, A3, e3, v0, v1, F3⟩ := draw_is 10 A2 1 9 F2.dr (by omega) (by omega)
  have e3 : R 11 "_law_draw" [.ref 1, .int 9] A2 = .ok (.int v) A3 := e3
  obtain ⟨n, rfl⟩ : ∃ n : Nat, v = n := ⟨v.toNat, by omega⟩
  have lr : ((List.range n).map fun (k : Nat) => AV.int k).length = n := by simp
  obtain ⟨acc, A4, e4, F4, row, rfl, hrl, hrow⟩ : ∃ acc A4, evL (C 11) (.comp [7] (.range1 (.call "_law_draw" [(.var 1), (.lit (.int 9))] [])) (.name 7) (.lit (.bl true)) (.call "_law_draw" [(.var 1), (.var 2)] []))
      [some (.fl (ns.map .int)), some (.ref 1), some (.int kinds), some (.int states), some (.int low), some (bookV bk), none, none, none] A2 = .ok acc A4 ∧
      Fr 1 A2 A4 ∧ ∃ row : List Int, acc = row.map .int ∧ row.length = ((List.range n).map fun (k : Nat) => AV.int k).length ∧ inB row kinds := by
    rw [compN (n := n) (A' := A3) (by simp [e3]) (by omega)]
    refine comp_run (fun i acc A' => Fr 1 A2 A' ∧ ∃ row : List Int, acc = row.map .int ∧ row.length = i ∧ inB row kinds) ⟨F3, [], rfl, rfl, fun x hx => by cases hx⟩ (by rw [lr]; exact le_size (by omega)) (fun i acc A' _ ⟨_, row, e, hr, _⟩ => ⟨rfl, by rw [e, List.length_map, hr]; exact Nat.le_refl _⟩) (fun i x acc A' hx ⟨F, row, e, hr, hi⟩ => ?_)
    obtain ⟨u, B, e5, u0, u1, F5⟩ := draw_is 10 A' 1 kinds F.dr (by omega) (by omega)
    have e5 : R 11 "_law_draw" [.ref 1, .int kinds] A' = .ok (.int u) B := e5
    refine ⟨_, _, true, A', rfl, rfl, ?_⟩
    rw [if_pos rfl]
    refine ⟨.int u, B, by simp [wipeS, e5], F.trans F5, row ++ [u], by rw [e]; simp, by simp [hr], fun y hy => ?_⟩
    rcases List.mem_append.mp hy with q | q
    · exact hi y q
    · rw [List.mem_singleton.mp q]; exact ⟨u0, u1⟩
  rw [lr] at hrl
  have F24 : Fr 1 A2 A4 := F4
  -- the loop
  have hlen : ∀ A, aBif .len [rowI row] A = .ok (.int n) A := fun A => by
    show Res.ok (AV.int ((row.map AV.int).length : Nat)) A = _
    rw [List.length_map, hrl]
  obtain ⟨σ', A5, e5, G5, o8, rfl⟩ : ∃ σ' A5, evS (C 11) (.for_ (.name 8) (.range1 (.bin .add (.bif .len [(.var 6)]) (.lit (.int 1)))) [.if_ (.not (.call "_law_runs" [(.var 5), (.sl (.var 6) none (some (.var 8)))] [])) [.ret (.lit (.bl false))] []])
      [some (.fl (ns.map .int)), some (.ref 1), some (.int kinds), some (.int states), some (.int low), some (bookV bk), some (rowI row), none, none] A4 = .next σ' A5 ∧
      Fr 1 A4 A5 ∧ ∃ o8, σ' = [some (.fl (ns.map .int)), some (.ref 1), some (.int kinds), some (.int states), some (.int low), some (bookV bk), some (rowI row), none, o8] := by
    rw [forN (n := n + 1) (by simp [hlen]) (by omega)]
    refine for_end (fun i σ' A' => Fr 1 A4 A' ∧ ∃ o8, σ' = [some (.fl (ns.map .int)), some (.ref 1), some (.int kinds), some (.int states), some (.int low), some (bookV bk), some (rowI row), none, o8]) ⟨Fr.refl F4.dr, _, rfl⟩ (fun _ _ _ _ _ => rfl) (fun i x σ A' hx ⟨F, o8, e⟩ => ?_)
    subst e
    obtain ⟨hi, rfl⟩ := range_get hx
    obtain ⟨G, g⟩ := runs_ok 8 (row := row.take i) A' hB s0 (hrow.take i) (by rw [List.length_take]; omega)
    have g : R 11 "_law_runs" [bookV bk, rowI (row.take i)] A' = .ok (.bl true) (A' ++ G) := g
    have sl : aSl (rowI row) none (some (i : Int)) A' = .ok (rowI (row.take i)) A' := by
      show Res.ok (AV.tup (cut (row.map AV.int) none (some (i : Int)))) A' = _
      rw [cut_take, ← List.map_take]; rfl
    refine ⟨_, _, rfl, [some (.fl (ns.map .int)), some (.ref 1), some (.int kinds), some (.int states), some (.int low), some (bookV bk), some (rowI row), none, some (.int i)], A' ++ G, ?_, F.trans (Fr.app F.dr G), _, rfl⟩
    simp [sl, g]
  -- the long row
  obtain ⟨b, A6, e6, F6⟩ := rare_is 9 A5 1 7 G5.dr (by omega) (by omega)
  have e6 : R 11 "_law_rare" [.ref 1, .int 7] A5 = .ok (.bl b) A6 := e6
  obtain ⟨A7, e7, F7⟩ : ∃ A7, evS (C 11) (.if_ (.and (.call "_law_rare" [(.var 1), (.lit (.int 7))] []) (.not (.call "_law_runs" [(.var 5), (.bin .mul (.bin .add (.var 6) (.tup [(.lit (.int 0))])) (.lit (.int 33)))] []))) [.ret (.lit (.bl false))] [])
      [some (.fl (ns.map .int)), some (.ref 1), some (.int kinds), some (.int states), some (.int low), some (bookV bk), some (rowI row), none, o8] A5 =
      .next [some (.fl (ns.map .int)), some (.ref 1), some (.int kinds), some (.int states), some (.int low), some (bookV bk), some (rowI row), none, o8] A7 ∧ Fr 1 A5 A7 := by
    cases b with
    | false => exact ⟨A6, by simp [e6], F6⟩
    | true =>
      have hlong : inB (List.replicate 33 (row ++ [0])).flatten kinds := inB_flat (fun x hx => by
        rcases List.mem_append.mp hx with q | q
        · exact hrow x q
        · rw [List.mem_singleton.mp q]; omega) 33
      obtain ⟨G, g⟩ := runs_ok 8 (row := (List.replicate 33 (row ++ [0])).flatten) A6 hB s0 hlong (by simp [List.length_flatten]; omega)
      have g : R 11 "_law_runs" [bookV bk, rowI (List.replicate 33 (row ++ [0])).flatten] A6 = .ok (.bl true) (A6 ++ G) := g
      have z1 : 1 ≤ sizeLine := le_size (by omega)
      have a1 : aBin .add (rowI row) (.tup [.int 0]) A6 = .ok (rowI (row ++ [0])) A6 := by
        show aBin .add (.tup (row.map .int)) (.tup [.int 0]) A6 = .ok (.tup ((row ++ [0]).map .int)) A6
        rw [add_tup _ (le_size (by rw [List.length_map, hrl]; show n + 1 ≤ _; omega)), List.map_append]; rfl
      have a2 : aBin .mul (rowI (row ++ [0])) (.int 33) A6 = .ok (rowI (List.replicate 33 (row ++ [0])).flatten) A6 := by
        have c : ((row ++ [0]).map AV.int) ≠ [] ∧ 2 ≤ (33 : Int) ∧ (33 : Int) ≤ 1000 ∧ ((row ++ [0]).map AV.int).length ≤ 1000 := ⟨by simp, by omega, by omega, by simp; omega⟩
        show aBin .mul (.tup ((row ++ [0]).map .int)) (.int 33) A6 = .ok (.tup ((List.replicate 33 (row ++ [0])).flatten.map .int)) A6
        simp only [aBin, if_pos c, List.map_flatten, List.map_replicate]
        rfl
      generalize (List.replicate 33 (row ++ [0])).flatten = L at a2 g
      exact ⟨A6 ++ G, by simp [e6, z1, a1, a2, g], F6.trans (Fr.app F6.dr G)⟩
  -- the questions
  have gB : Good A7 (bookV bk) := good_book A7 hB (by omega) (by omega)
  have q1 : R 11 "_law_says" [bookV bk] A7 = .ok (.bl true) A7 := says_ok 7 gB
  obtain ⟨x, A8, c1, g1, F8⟩ := changed_ok 8 F7.dr hB k0 (by omega) s0 (by omega)
  have c1 : R 11 "_law_changed" [.ref 1, bookV bk] A7 = .ok x A8 := c1
  have q2 : R 11 "_law_says" [x] A8 = .ok (.bl true) A8 := says_ok 7 g1
  obtain ⟨y, A9, c2, g2, F9⟩ := changed_ok 8 F8.dr hB k0 (by omega) s0 (by omega)
  have c2 : R 11 "_law_changed" [.ref 1, bookV bk] A8 = .ok y A9 := c2
  have q3 : R 11 "_law_says" [y] A9 = .ok (.bl true) A9 := says_ok 7 g2
  refine ⟨A9, ?_⟩
  have e4' : ∀ A, aLF .tup (row.map AV.int) A = .ok (rowI row) A := fun _ => rfl
  simp [b_law, e2, e4, e4', e5, e7, q1, c1, q2, c2, q3]
end Law


open PySem PySem.W PyProof.Rows
set_option maxHeartbeats 0 in
theorem PySem.Challenge.cw_outlaypact_k02_books_run_holds : PySem.Challenge.rw_outlaypact_k02_books_run.Holds := by
  w_on; o_law; k_head; (case hw => w_witness2)
  k_fill
  refine L2.walk_ofK (l := PySem.Challenge.rw_outlaypact_k02_books_run) (n := 63) (k := 12) (x := "script") (CX := L2.CX0) (sp := fun K => Ev.spEv K ⟨Ev.run (Ev.progOf Law.T) Law.gl Law.fuel 12, Law.gl, Law.fuel⟩ "law") rfl (by decide) rfl ⟨rfl, by decide, by decide⟩ (fun w h Y => PySem.W.kIn_of Y) ?F (fun K H a ns hl hO hS => (Law.holds ns hl).elim fun _ q => Ev.law_sp hO hS q) (fun _ _ _ _ h => h)
  case F =>
    intro w mg fa h KX Gh hmg
    have h_is_whole : Ev.EntAt KX mg Law.G Law.e_is_whole := by
      refine' Ev.ent_mk (gl := Law.gl) (st := Law.topS 1) (x := "is_whole") rfl KX Gh ?a ?l ?c ?k Law.s_is_whole Law.t_is_whole rfl (fun _ _ _ _ _ _ us hl => match us, hl with | [_], _ => rfl)
      (case a => k_is); (case l => k_is); (case c => k_is); (case k => k_is)
    have h_is_pair : Ev.EntAt KX mg Law.G Law.e_is_pair := by
      refine' Ev.ent_mk (gl := Law.gl) (st := Law.topS 6) (x := "is_pair") rfl KX Gh ?a ?l ?c ?k Law.s_is_pair Law.t_is_pair rfl (fun _ _ _ _ _ _ us hl => match us, hl with | [_, _], _ => rfl)
      (case a => k_is); (case l => k_is); (case c => k_is); (case k => k_is)
    have h_is_book : Ev.EntAt KX mg Law.G Law.e_is_book := by
      refine' Ev.ent_mk (gl := Law.gl) (st := Law.topS 7) (x := "is_book") rfl KX Gh ?a ?l ?c ?k Law.s_is_book Law.t_is_book rfl (fun _ _ _ _ _ _ us hl => match us, hl with | [_], _ => rfl)
      (case a => k_is); (case l => k_is); (case c => k_is); (case k => k_is)
    have h_cost_of : Ev.EntAt KX mg Law.G Law.e_cost_of := by
      refine' Ev.ent_mk (gl := Law.gl) (st := Law.topS 8) (x := "cost_of") rfl KX Gh ?a ?l ?c ?k Law.s_cost_of Law.t_cost_of rfl (fun _ _ _ _ _ _ us hl => match us, hl with | [_, _], _ => rfl)
      (case a => k_is); (case l => k_is); (case c => k_is); (case k => k_is)
    have h_state_after : Ev.EntAt KX mg Law.G Law.e_state_after := by
      refine' Ev.ent_mk (gl := Law.gl) (st := Law.topS 9) (x := "state_after") rfl KX Gh ?a ?l ?c ?k Law.s_state_after Law.t_state_after rfl (fun _ _ _ _ _ _ us hl => match us, hl with | [_, _], _ => rfl)
      (case a => k_is); (case l => k_is); (case c => k_is); (case k => k_is)
    have h_adds_of : Ev.EntAt KX mg Law.G Law.e_adds_of := by
      refine' Ev.ent_mk (gl := Law.gl) (st := Law.topS 10) (x := "adds_of") rfl KX Gh ?a ?l ?c ?k Law.s_adds_of Law.t_adds_of rfl (fun _ _ _ _ _ _ us hl => match us, hl with | [_, _], _ => rfl)
      (case a => k_is); (case l => k_is); (case c => k_is); (case k => k_is)
    have h__law_begin : Ev.EntAt KX mg Law.G Law.e__law_begin := by
      refine' Ev.ent_mk (gl := Law.gl) (st := Law.topS 12) (x := "_law_begin") rfl KX Gh ?a ?l ?c ?k Law.s__law_begin Law.t__law_begin rfl (fun _ _ _ _ _ _ us hl => match us, hl with | [_], _ => rfl)
      (case a => k_is); (case l => k_is); (case c => k_is); (case k => k_is)
    have h__law_draw : Ev.EntAt KX mg Law.G Law.e__law_draw := by
      refine' Ev.ent_mk (gl := Law.gl) (st := Law.topS 13) (x := "_law_draw") rfl KX Gh ?a ?l ?c ?k Law.s__law_draw Law.t__law_draw rfl (fun _ _ _ _ _ _ us hl => match us, hl with | [_, _], _ => rfl)
      (case a => k_is); (case l => k_is); (case c => k_is); (case k => k_is)
    have h__law_pick : Ev.EntAt KX mg Law.G Law.e__law_pick := by
      refine' Ev.ent_mk (gl := Law.gl) (st := Law.topS 14) (x := "_law_pick") rfl KX Gh ?a ?l ?c ?k Law.s__law_pick Law.t__law_pick rfl (fun _ _ _ _ _ _ us hl => match us, hl with | [_, _], _ => rfl)
      (case a => k_is); (case l => k_is); (case c => k_is); (case k => k_is)
    have h__law_rare : Ev.EntAt KX mg Law.G Law.e__law_rare := by
      refine' Ev.ent_mk (gl := Law.gl) (st := Law.topS 15) (x := "_law_rare") rfl KX Gh ?a ?l ?c ?k Law.s__law_rare Law.t__law_rare rfl (fun _ _ _ _ _ _ us hl => match us, hl with | [_, _], _ => rfl)
      (case a => k_is); (case l => k_is); (case c => k_is); (case k => k_is)
    have h__law_is_int : Ev.EntAt KX mg Law.G Law.e__law_is_int := by
      refine' Ev.ent_mk (gl := Law.gl) (st := Law.topS 16) (x := "_law_is_int") rfl KX Gh ?a ?l ?c ?k Law.s__law_is_int Law.t__law_is_int rfl (fun _ _ _ _ _ _ us hl => match us, hl with | [_], _ => rfl)
      (case a => k_is); (case l => k_is); (case c => k_is); (case k => k_is)
    have h__law_is_ints : Ev.EntAt KX mg Law.G Law.e__law_is_ints := by
      refine' Ev.ent_mk (gl := Law.gl) (st := Law.topS 17) (x := "_law_is_ints") rfl KX Gh ?a ?l ?c ?k Law.s__law_is_ints Law.t__law_is_ints rfl (fun _ _ _ _ _ _ us hl => match us, hl with | [_], _ => rfl)
      (case a => k_is); (case l => k_is); (case c => k_is); (case k => k_is)
    have h__law_book : Ev.EntAt KX mg Law.G Law.e__law_book := by
      refine' Ev.ent_mk (gl := Law.gl) (st := Law.topS 18) (x := "_law_book") rfl KX Gh ?a ?l ?c ?k Law.s__law_book Law.t__law_book rfl (fun _ _ _ _ _ _ us hl => match us, hl with | [_, _, _, _, _], _ => rfl)
      (case a => k_is); (case l => k_is); (case c => k_is); (case k => k_is)
    have h__law_is_book : Ev.EntAt KX mg Law.G Law.e__law_is_book := by
      refine' Ev.ent_mk (gl := Law.gl) (st := Law.topS 19) (x := "_law_is_book") rfl KX Gh ?a ?l ?c ?k Law.s__law_is_book Law.t__law_is_book rfl (fun _ _ _ _ _ _ us hl => match us, hl with | [_], _ => rfl)
      (case a => k_is); (case l => k_is); (case c => k_is); (case k => k_is)
    have h__law_with : Ev.EntAt KX mg Law.G Law.e__law_with := by
      refine' Ev.ent_mk (gl := Law.gl) (st := Law.topS 20) (x := "_law_with") rfl KX Gh ?a ?l ?c ?k Law.s__law_with Law.t__law_with rfl (fun _ _ _ _ _ _ us hl => match us, hl with | [_, _, _, _], _ => rfl)
      (case a => k_is); (case l => k_is); (case c => k_is); (case k => k_is)
    have h__law_changed : Ev.EntAt KX mg Law.G Law.e__law_changed := by
      refine' Ev.ent_mk (gl := Law.gl) (st := Law.topS 21) (x := "_law_changed") rfl KX Gh ?a ?l ?c ?k Law.s__law_changed Law.t__law_changed rfl (fun _ _ _ _ _ _ us hl => match us, hl with | [_, _], _ => rfl)
      (case a => k_is); (case l => k_is); (case c => k_is); (case k => k_is)
    have h__law_says : Ev.EntAt KX mg Law.G Law.e__law_says := by
      refine' Ev.ent_mk (gl := Law.gl) (st := Law.topS 22) (x := "_law_says") rfl KX Gh ?a ?l ?c ?k Law.s__law_says Law.t__law_says rfl (fun _ _ _ _ _ _ us hl => match us, hl with | [_], _ => rfl)
      (case a => k_is); (case l => k_is); (case c => k_is); (case k => k_is)
    have h__law_runs : Ev.EntAt KX mg Law.G Law.e__law_runs := by
      refine' Ev.ent_mk (gl := Law.gl) (st := Law.topS 23) (x := "_law_runs") rfl KX Gh ?a ?l ?c ?k Law.s__law_runs Law.t__law_runs rfl (fun _ _ _ _ _ _ us hl => match us, hl with | [_, _], _ => rfl)
      (case a => k_is); (case l => k_is); (case c => k_is); (case k => k_is)
    have z : ∀ x, Ev.isBlt x = true → mg x = none := by
      refine' Ev.blt_of (Ev.all1 (PySem.W.mg_none_of KX Gh ?z0) (Ev.all1 (PySem.W.mg_none_of KX Gh ?z1) (Ev.all1 (PySem.W.mg_none_of KX Gh ?z2) (Ev.all1 (PySem.W.mg_none_of KX Gh ?z3) (Ev.all1 (PySem.W.mg_none_of KX Gh ?z4) (Ev.all1 (PySem.W.mg_none_of KX Gh ?z5) (Ev.all1 (PySem.W.mg_none_of KX Gh ?z6) (Ev.all1 (PySem.W.mg_none_of KX Gh ?z7) (Ev.all1 (PySem.W.mg_none_of KX Gh ?z8) (Ev.all1 (PySem.W.mg_none_of KX Gh ?z9) (Ev.all1 (PySem.W.mg_none_of KX Gh ?z10) (Ev.all1 (PySem.W.mg_none_of KX Gh ?z11) (Ev.all1 (PySem.W.mg_none_of KX Gh ?z12) (Ev.all1 (PySem.W.mg_none_of KX Gh ?z13) (Ev.all1 (PySem.W.mg_none_of KX Gh ?z14) (Ev.all1 (PySem.W.mg_none_of KX Gh ?z15) (Ev.all1 (PySem.W.mg_none_of KX Gh ?z16) (Ev.all1 (PySem.W.mg_none_of KX Gh ?z17) (Ev.all1 (PySem.W.mg_none_of KX Gh ?z18) (Ev.all0))))))))))))))))))))
      (case z0 => k_is); (case z1 => k_is); (case z2 => k_is); (case z3 => k_is); (case z4 => k_is); (case z5 => k_is); (case z6 => k_is); (case z7 => k_is); (case z8 => k_is); (case z9 => k_is); (case z10 => k_is); (case z11 => k_is); (case z12 => k_is); (case z13 => k_is); (case z14 => k_is); (case z15 => k_is); (case z16 => k_is); (case z17 => k_is); (case z18 => k_is)
    have c_MOST_KINDS : Ev.ConAt KX mg "MOST_KINDS" (.int 6) := by
      refine' Ev.con_int KX Gh ?a; (case a => k_is)
    have c_MOST_STATES : Ev.ConAt KX mg "MOST_STATES" (.int 24) := by
      refine' Ev.con_int KX Gh ?a; (case a => k_is)
    have c_MOST_COST : Ev.ConAt KX mg "MOST_COST" (.int 9999) := by
      refine' Ev.con_int KX Gh ?a; (case a => k_is)
    refine' Ev.law_F (T := Law.T) (gl := Law.gl) (gcd := false) (fuel := Law.fuel) (st := Law.topS 24) (e := Law.e_law) (k := 12) KX Gh hmg rfl rfl ?a ?l ?c ?k Law.s_law Law.t_law (fun _ _ _ _ _ _ _ => rfl) ?qT z ?qG ?qC rfl rfl
    (case a => k_is); (case l => k_is); (case c => k_is); (case k => k_is)
    case qT => exact fun hL => Ev.ents1 h_is_whole (Ev.ents1 h_is_pair (Ev.ents1 h_is_book (Ev.ents1 h_cost_of (Ev.ents1 h_state_after (Ev.ents1 h_adds_of (Ev.ents1 h__law_begin (Ev.ents1 h__law_draw (Ev.ents1 h__law_pick (Ev.ents1 h__law_rare (Ev.ents1 h__law_is_int (Ev.ents1 h__law_is_ints (Ev.ents1 h__law_book (Ev.ents1 h__law_is_book (Ev.ents1 h__law_with (Ev.ents1 h__law_changed (Ev.ents1 h__law_says (Ev.ents1 h__law_runs (Ev.ents1 hL (Ev.ents0)))))))))))))))))))
    case qG => intro h; cases h
    case qC =>
      intro x v hv
      unfold Law.gl at hv
      split at hv
      · rename_i e; cases hv; rw [e]; exact c_MOST_KINDS
      split at hv
      · rename_i e; cases hv; rw [e]; exact c_MOST_STATES
      split at hv
      · rename_i e; cases hv; rw [e]; exact c_MOST_COST
      cases hv
