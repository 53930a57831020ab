import PyProof.Rows.All
import Wide.All
import OpenK.AllK
import Wide.FinOn
import KE.KStateDown
import PySem.Challenge.RW_cornercity_k02_sizes_and_directions
import HandS.ForMost
import HandS.ForExc
import HandS.IsInst
import HandS.Style
import HandS.TupAny
import HandS.Wide
import HandS.Deep
import HandS.Dict
import HandS.Zip
import HandS.Flow
import HandS.More
import HandS.FStrTup
import HandS.Head0
import HandS.Head1
import HandS.Head2
import HandS.HeadHook1
import HandS.HeadHook3
import HandS.TryOnly
set_option Elab.async false
set_option linter.all false
set_option maxRecDepth 100000
set_option maxHeartbeats 4000000
namespace CC
open PySem PySem.Spec PyProof.Rows L2

/-! ### data, stores, results -/
inductive D where
  | non | bl (b : Bool) | int (i : Int) | str (x : Str) | tup (ds : List D) | loc (n : Nat) | ty (t : String) | fn (x : Str)
  deriving Inhabited
inductive SO where
  | lst (ds : List D) | frz (ds : List D) | dic (kvs : List (Key × D)) | ins (c : Str) (fs : List (Str × D))
abbrev Sto := List SO
abbrev Env := List (Option D)
inductive R (α : Type) where
  | ok (a : α) (S : Sto) | exc (c : Nat) (p : List D) (S : Sto) | bad
def R.bind {α β : Type} (r : R α) (f : α → Sto → R β) : R β :=
  match r with
  | .ok a S => f a S
  | .exc c p S => .exc c p S
  | .bad => .bad
def R.opt {α : Type} (o : Option α) (S : Sto) : R α := match o with
  | some a => .ok a S
  | none => .bad
@[simp] theorem R.bind_ok {α β : Type} (a : α) (S : Sto) (f : α → Sto → R β) : (R.ok a S).bind f = f a S := rfl
@[simp] theorem R.bind_exc {α β : Type} (c : Nat) (p : List D) (S : Sto) (f : α → Sto → R β) : (R.exc c p S : R α).bind f = .exc c p S := rfl
@[simp] theorem R.bind_bad {α β : Type} (f : α → Sto → R β) : (R.bad : R α).bind f = .bad := rfl
@[simp] theorem R.opt_some {α : Type} (a : α) (S : Sto) : R.opt (some a) S = .ok a S := rfl
abbrev CallSem := Nat → List D → Sto → R D

/-! ### the language -/
inductive Bi where
  | len | abs | sum | min | max | all | any | sorted | repr | int | str | list | tuple | set | isinst
  deriving DecidableEq
inductive Mt where
  | append | pop | popAt | insert | reverse | extend
  deriving DecidableEq
inductive Xp where
  | var (i : Nat) | glo (x : Nat) | non | bl (b : Bool) | int (i : Int) | str (x : Str) | tyc (t : String)
  | bin (op : Operator) (a b : Xp) | neg (a : Xp) | nt (a : Xp) | and (a b : Xp) | or (a b : Xp)
  | cmp (op : CmpOp) (a b : Xp) | cmp2 (op op' : CmpOp) (a b c : Xp) | ife (c a b : Xp)
  | call (f : Nat) (es : Xp) | callk (f : Nat) (es ks : Xp) (perm : List Nat) | bi (b : Bi) (es : Xp) | mt (m : Mt) (o es : Xp)
  | ix (a b : Xp) | sl (a lo hi : Xp) | rev (a : Xp) | tup (es : Xp) | lst (es : Xp)
  | lc (it tg elt cond : Xp) (vs : List Nat)
  | gdx (t : List (Str × D)) (e : Xp) | dnew
  | itr (a : Xp) | rng1 (a : Xp) | rng2 (a b : Xp) | zip2 (a b : Xp) | enum (a : Xp)
  | nil | cons (a b : Xp)

/-! ### operations -/
def truth (x : D) (S : Sto) : Option Bool := match x with
  | .non => some false
  | .bl b => some b
  | .int i => some (i != 0)
  | .tup ds => some (!ds.isEmpty)
  | .loc n => match S[n]? with
    | some (.lst ds) => some (!ds.isEmpty)
    | some (.frz ds) => some (!ds.isEmpty)
    | _ => none
  | _ => none
def lstAt (S : Sto) (n : Nat) : Option (List D) := match S[n]? with
  | some (.lst ds) => some ds
  | some (.frz ds) => some ds
  | _ => none
def dicAt (S : Sto) (n : Nat) : Option (List (Key × D)) := match S[n]? with
  | some (.dic kvs) => some kvs
  | _ => none
def kD : D → Option Key
  | .int i => some (.inl i)
  | .str x => some (.inr x)
  | _ => none
def valA (kvs : List (Key × D)) (k : Key) : Option D := (kvs.find? fun kv => decide (kv.1 = k)).map (·.2)
def putA (kvs : List (Key × D)) (k : Key) (d : D) : List (Key × D) := if (kvs.any fun kv => decide (kv.1 = k)) = true then kvs.map (fun kv => if kv.1 = k then (kv.1, d) else kv) else kvs ++ [(k, d)]
def isLst (x : D) (S : Sto) : Bool := match x with
  | .loc n => (lstAt S n).isSome
  | _ => false
def lenL (o : Option (List D)) (p : Option (List (Key × D))) : Option Nat := match o with
  | some ds => some ds.length
  | none => p.map List.length
def ixL (o : Option (List D)) (p : Option (List (Key × D))) (y : D) : Option D := match o with
  | some ds => match y with
    | .int i => atI ds i
    | _ => none
  | none => p.bind fun kvs => (kD y).bind fun k => valA kvs k
def lenD (x : D) (S : Sto) : Option Nat := match x with
  | .str z => if z.length ≤ sizeLine then some z.length else none
  | .tup ds => some ds.length
  | .loc n => lenL (lstAt S n) (dicAt S n)
  | _ => none
/-- plain data of a value -/
def toP (S : Sto) : Nat → D → Option PyData
  | _, .non => some .none
  | _, .bl b => some (.bool b)
  | _, .int i => some (.int i)
  | _, .str x => some (.str x)
  | n + 1, .tup ds => (ds.mapM (toP S n)).map .tuple
  | n + 1, .loc k => (lstAt S k).bind fun ds => (ds.mapM (toP S n)).map .list
  | _, _ => none
def eqD (x y : D) (S : Sto) : Option Bool :=
  (toP S 50 x).bind fun p => (toP S 50 y).bind fun q => if SeqAt.shaped p && SeqAt.shaped q then some (PyData.eqv p q) else none
mutual
/-- no text of repr is longer -/
def shB : PyData → Nat
  | .none => 4
  | .bool _ => 5
  | .int i => i.natAbs.log2 + 3
  | .str x => (reprText x).length
  | .list xs => shBs xs + 3
  | .tuple xs => shBs xs + 3
  | .dict _ => sizeLine + 1
def shBs : List PyData → Nat
  | [] => 0
  | x :: xs => shB x + 2 + shBs xs
end
def repOk (p : PyData) : Bool := p.showable && p.canLay0 && decide (p.depth ≤ 64) && decide (shB p ≤ sizeLine)
def repP (o : Option PyData) : Option D := o.bind fun p => if repOk p then some (.str p.shown) else none
def repD (x : D) (S : Sto) : Option D := match x with
  | .non => none
  | x => repP (toP S 50 x)
def flatD : D → Bool
  | .non => true
  | .bl _ => true
  | .int _ => true
  | .str _ => true
  | _ => false
/-- == of flat data -/
def feq : D → D → Bool
  | .non, .non => true
  | .bl a, .bl b => a == b
  | .bl a, .int b => (if a then 1 else 0) == b
  | .int a, .bl b => a == (if b then 1 else 0)
  | .int a, .int b => a == b
  | .str a, .str b => a == b
  | _, _ => false
def inSeq (x : D) (ds : List D) : Option Bool := if flatD x && ds.all flatD then some (ds.any fun y => feq y x) else none
def inDeep (x : D) (n : Nat) (S : Sto) : Option Bool :=
  (toP S 50 x).bind fun p => (toP S 50 (.loc n)).bind fun q => match q with
    | .list ds => if SeqAt.shaped p && SeqAt.shaped (.list ds) then some (ds.any fun z => PyData.eqv z p) else none
    | _ => none
def inD (x y : D) (S : Sto) : Option Bool := match y with
  | .tup ds => inSeq x ds
  | .loc n => match dicAt S n with
    | some kvs => (kD x).map fun k => (valA kvs k).isSome
    | none => inDeep x n S
  | .str z => match x with
    | .str c => some (!(Builtin.Str.occurrences z c 0 z.length 1).isEmpty)
    | _ => none
  | _ => none
def isNon : D → Bool
  | .non => true
  | _ => false
def qEq (x y : D) (S : Sto) : Option Bool := match x, y with
  | .int i, .int j => some (i == j)
  | .str a, .str b => some (a == b)
  | x, y => eqD x y S
def cmpD (op : CmpOp) (x y : D) (S : Sto) : Option Bool := match op with
  | .Eq => qEq x y S
  | .NotEq => (qEq x y S).map (!·)
  | .Lt => match x, y with
    | .int i, .int j => some (decide (i < j))
    | _, _ => none
  | .LtE => match x, y with
    | .int i, .int j => some (decide (i ≤ j))
    | _, _ => none
  | .Gt => match x, y with
    | .int i, .int j => some (decide (j < i))
    | _, _ => none
  | .GtE => match x, y with
    | .int i, .int j => some (decide (j ≤ i))
    | _, _ => none
  | .In => inD x y S
  | .NotIn => (inD x y S).map (!·)
  | .Is => match y with
    | .non => some (isNon x)
    | _ => none
  | .IsNot => match y with
    | .non => some (!isNon x)
    | _ => none
def mulOk (i j : Int) : Bool := decide (i.natAbs.log2 + j.natAbs.log2 < 1000000)
def powOk (i j : Int) : Bool := decide (0 ≤ j) && decide (j ≤ 1000) && decide (i.natAbs.log2 < 1000)
def divOk (j : Int) : Bool := decide (0 < j) && decide (j.natAbs.log2 < 9000)
def mk (so : SO) (S : Sto) : R D := .ok (.loc S.length) (S ++ [so])
def binD (op : Operator) (x y : D) (S : Sto) : R D := match op with
  | .Add => match x, y with
    | .int i, .int j => .ok (.int (i + j)) S
    | .str a, .str b => if a.length + b.length ≤ sizeLine then .ok (.str (a ++ b)) S else .bad
    | .tup a, .tup b => if a.length + b.length ≤ sizeLine then .ok (.tup (a ++ b)) S else .bad
    | .loc n, .loc k => match S[n]?, S[k]? with
      | some (.lst a), some (.lst b) => if a.length + b.length ≤ sizeLine then mk (.lst (a ++ b)) S else .bad
      | _, _ => .bad
    | _, _ => .bad
  | .Sub => match x, y with
    | .int i, .int j => .ok (.int (i - j)) S
    | _, _ => .bad
  | .Mult => match x, y with
    | .int i, .int j => if mulOk i j then .ok (.int (i * j)) S else .bad
    | .loc n, .int k => match S[n]? with
      | some (.lst a) => if decide (-(2 ^ 63) ≤ k) && decide (k < 2 ^ 63) && decide (a.length * k.toNat ≤ sizeLine) then mk (.lst (List.replicate k.toNat a).flatten) S else .bad
      | _ => .bad
    | _, _ => .bad
  | .FloorDiv => match x, y with
    | .int i, .int j => if divOk j then .ok (.int (i / j)) S else .bad
    | _, _ => .bad
  | .Mod => match x, y with
    | .int i, .int j => if decide (0 < j) then .ok (.int (i % j)) S else .bad
    | _, _ => .bad
  | .Pow => match x, y with
    | .int i, .int j => if powOk i j then .ok (.int (i ^ j.toNat)) S else .bad
    | _, _ => .bad
  | _ => .bad
def augD (op : Operator) (x y : D) (S : Sto) : R D := match op with
  | .Add => match x, y with
    | .int i, .int j => .ok (.int (i + j)) S
    | .str a, .str b => if a.length + b.length ≤ sizeLine then .ok (.str (a ++ b)) S else .bad
    | .loc n, .loc k => match S[n]?, S[k]? with
      | some (.lst a), some (.lst b) => if a.length + b.length ≤ sizeLine then .ok (.loc n) (S.set n (.lst (a ++ b))) else .bad
      | _, _ => .bad
    | _, _ => .bad
  | .Sub => match x, y with
    | .int i, .int j => .ok (.int (i - j)) S
    | _, _ => .bad
  | .Mult => match x, y with
    | .int i, .int j => if decide (-(2 ^ 64) < j) && decide (j < 2 ^ 64) then .ok (.int (i * j)) S else .bad
    | _, _ => .bad
  | _ => .bad
def ixD (x y : D) (S : Sto) : Option D := match x, y with
  | .tup ds, .int i => atI ds i
  | .loc n, y => ixL (lstAt S n) (dicAt S n) y
  | .str z, .int i => if z.length ≤ sizeLine then (atI z.cps.toList i).map fun c => .str ⟨#[c]⟩ else none
  | _, _ => none
def cut {α : Type} (xs : List α) (lo hi : Option Int) : List α := (xs.drop (HT.sIx xs.length 0 lo)).take (HT.sIx xs.length xs.length hi - HT.sIx xs.length 0 lo)
def slD (x : D) (lo hi : Option Int) (S : Sto) : R D := match x with
  | .tup ds => .ok (.tup (cut ds lo hi)) S
  | .loc n => match lstAt S n with
    | some ds => mk (.lst (cut ds lo hi)) S
    | none => .bad
  | _ => .bad
def revD (x : D) (S : Sto) : R D := match x with
  | .loc n => match lstAt S n with
    | some ds => mk (.lst ds.reverse) S
    | none => .bad
  | _ => .bad
def intsOf : List D → Option (List Int)
  | [] => some []
  | .int i :: r => (intsOf r).map (i :: ·)
  | _ :: _ => none
def blsOf : List D → Option (List Bool)
  | [] => some []
  | .bl b :: r => (blsOf r).map (b :: ·)
  | _ :: _ => none
def tyOfD (x : D) (S : Sto) : Option String := match x with
  | .non => some "NoneType"
  | .bl _ => some "bool"
  | .int _ => some "int"
  | .str _ => some "str"
  | .tup _ => some "tuple"
  | .loc n => match S[n]? with
    | some (.lst _) => some "list"
    | some (.dic _) => some "dict"
    | _ => none
  | _ => none
def subTy (a b : String) : Bool := a == b || (a == "bool" && b == "int")
def knownTy (b : String) : Bool := b == "int" || b == "bool" || b == "str" || b == "tuple" || b == "list" || b == "dict"
def isT (a : String) (t : D) : Option Bool := match t with
  | .ty b => if knownTy b then some (subTy a b) else none
  | .tup [.ty b, .ty c] => if knownTy b && knownTy c then some (subTy a b || subTy a c) else none
  | _ => none
def isinst (x t : D) (S : Sto) : Option Bool := (tyOfD x S).bind fun a => isT a t
def leastI : Int → List Int → Int
  | m, [] => m
  | m, x :: r => leastI (if x < m then x else m) r
def mostI : Int → List Int → Int
  | m, [] => m
  | m, x :: r => mostI (if m < x then x else m) r
def biD (b : Bi) (xs : List D) (S : Sto) : R D := match b, xs with
  | .len, [x] => R.opt ((lenD x S).map fun n => .int n) S
  | .abs, [.int i] => .ok (.int (if i < 0 then -i else i)) S
  | .max, [.int i, .int j] => .ok (.int (if j > i then j else i)) S
  | .min, [.int i, .int j] => .ok (.int (if j < i then j else i)) S
  | .max, [.loc n] => match (lstAt S n).bind intsOf with
    | some (x :: r) => .ok (.int (mostI x r)) S
    | _ => .bad
  | .min, [.loc n] => match (lstAt S n).bind intsOf with
    | some (x :: r) => .ok (.int (leastI x r)) S
    | _ => .bad
  | .sum, [.loc n] => R.opt (((lstAt S n).bind intsOf).map fun ns => .int ns.sum) S
  | .all, [.loc n] => R.opt (((lstAt S n).bind blsOf).map fun bs => .bl (bs.all id)) S
  | .any, [.loc n] => R.opt (((lstAt S n).bind blsOf).map fun bs => .bl (bs.any id)) S
  | .int, [.int i] => .ok (.int i) S
  | .int, [.bl k] => .ok (.int (if k then 1 else 0)) S
  | .list, [.loc n] => match lstAt S n with
    | some ds => mk (.lst ds) S
    | none => .bad
  | .list, [.tup ds] => mk (.lst ds) S
  | .tuple, [.loc n] => match lstAt S n with
    | some ds => .ok (.tup ds) S
    | none => .bad
  | .tuple, [.tup ds] => .ok (.tup ds) S
  | .repr, [x] => R.opt (repD x S) S
  | .isinst, [x, t] => R.opt ((isinst x t S).map .bl) S
  | _, _ => .bad
/-- a list's method: its answer, the list behind it -/
def mtL (m : Mt) (ds xs : List D) (S : Sto) : Option (D × List D) := match m, xs with
  | .append, [d] => if ds.length < sizeLine then some (.non, ds ++ [d]) else none
  | .pop, [] => (ds[ds.length - 1]?).map fun y => (y, ds.dropLast)
  | .popAt, [.int i] => if decide (-(2 ^ 63) ≤ i) && decide (i < 2 ^ 63) then (seqIndex? i ds.length).bind fun k => (ds[k]?).map fun y => (y, ds.eraseIdx k) else none
  | .insert, [.int i, y] => if decide (ds.length < sizeLine) && (decide (0 ≤ i) && decide (i < 2 ^ 63)) then some (.non, ds.take i.toNat ++ [y] ++ ds.drop i.toNat) else none
  | .reverse, [] => some (.non, ds.reverse)
  | .extend, [.loc k] => match S[k]? with
    | some (.lst zs) => if ds.length + zs.length ≤ sizeLine then some (.non, ds ++ zs) else none
    | _ => none
  | _, _ => none
def mtW (n : Nat) (S : Sto) : Option (D × List D) → R D
  | some (r, ys) => .ok r (S.set n (.lst ys))
  | none => .bad
def mtD (m : Mt) (x : D) (xs : List D) (S : Sto) : R D := match x with
  | .loc n => match S[n]? with
    | some (.lst ds) => mtW n S (mtL m ds xs S)
    | _ => .bad
  | _ => .bad
def setIx (x y d : D) (S : Sto) : Option Sto := match x with
  | .loc n => match S[n]? with
    | some (.lst ds) => match y with
      | .int i => (ixN ds.length i).map fun j => S.set n (.lst (ds.set j d))
      | _ => none
    | some (.dic kvs) => (kD y).bind fun k => if kvs.length < sizeLine then some (S.set n (.dic (putA kvs k d))) else none
    | _ => none
  | _ => none
/-! ### what is walked -/
inductive Src where
  | lst (n : Nat) | ds (l : List D) | zip (n k : Nat) | enum (n : Nat)
def srcOf (x : D) (S : Sto) : Option Src := match x with
  | .tup ds => some (.ds ds)
  | .loc n => (lstAt S n).map fun _ => .lst n
  | .str z => some (.ds (z.cps.toList.map fun c => .str ⟨#[c]⟩))
  | _ => none
def Src.get (s : Src) (i : Nat) (S : Sto) : Option (Option D) := match s with
  | .lst n => (lstAt S n).map fun ds => ds[i]?
  | .ds l => some l[i]?
  | .zip n k => (lstAt S n).bind fun a => (lstAt S k).map fun b => a[i]?.bind fun x => b[i]?.map fun y => .tup [x, y]
  | .enum n => (lstAt S n).map fun ds => ds[i]?.map fun x => .tup [.int (i : Nat), x]
def Src.size (s : Src) (S : Sto) : Nat := match s with
  | .lst n => ((lstAt S n).getD []).length
  | .ds l => l.length
  | .zip n _ => ((lstAt S n).getD []).length
  | .enum n => ((lstAt S n).getD []).length
/-! ### targets that are names -/
mutual
def bindT : Xp → D → Env → Option Env
  | .var i, d, ρ => some (ρ.set i (some d))
  | .tup t, d, ρ => match d with
    | .tup ds => bindL t ds ρ
    | _ => none
  | _, _, _ => none
def bindL : Xp → List D → Env → Option Env
  | .nil, [], ρ => some ρ
  | .cons a b, d :: ds, ρ => (bindT a d ρ).bind fun ρ1 => bindL b ds ρ1
  | _, _, _ => none
end
def wipeE (ρ : Env) : List Nat → Env
  | [] => ρ
  | v :: vs => (wipeE ρ vs).set v none
/-- the turns of a comprehension -/
def lcl (src : Src) (tg : Xp) (cond : Env → Sto → R Bool) (elt : Env → Sto → R D) (ρ : Env) : Nat → Nat → List D → Sto → R (List D)
  | 0, _, _, _ => .bad
  | n + 1, i, acc, S => match src.get i S with
    | none => .bad
    | some none => .ok acc S
    | some (some d) => match bindT tg d ρ with
      | none => .bad
      | some ρ1 => match cond ρ1 S with
        | .ok true S1 => match elt ρ1 S1 with
          | .ok y S2 => if acc.length < sizeLine then lcl src tg cond elt ρ n (i + 1) (acc ++ [y]) S2 else .bad
          | _ => .bad
        | .ok false S1 => lcl src tg cond elt ρ n (i + 1) acc S1
        | _ => .bad
def permL {α : Type} (vs : List α) : List Nat → Option (List α)
  | [] => some []
  | p :: ps => (vs[p]?).bind fun v => (permL vs ps).map (v :: ·)
def rangeD (lo : Int) (n : Nat) : List D := (List.range n).map fun i : Nat => .int (lo + (i : Nat))
def small62 (i : Int) : Bool := decide (-(2 ^ 62) ≤ i) && decide (i < 2 ^ 62)
def asT (r : R D) : R Bool := r.bind fun x S => R.opt (truth x S) S
def asI (r : R D) : R Int := r.bind fun x S => match x with
  | .int i => .ok i S
  | _ => .bad
mutual
def ev (C : CallSem) (G : Nat → Option D) : Xp → Env → Sto → R D
  | .var i, ρ, S => R.opt (ρ[i]?.bind id) S
  | .glo x, _, S => R.opt (G x) S
  | .non, _, S => .ok .non S
  | .bl b, _, S => .ok (.bl b) S
  | .int i, _, S => .ok (.int i) S
  | .str x, _, S => .ok (.str x) S
  | .tyc t, _, S => .ok (.ty t) S
  | .bin op a b, ρ, S => (ev C G a ρ S).bind fun x S1 => (ev C G b ρ S1).bind fun y S2 => binD op x y S2
  | .neg a, ρ, S => (asI (ev C G a ρ S)).bind fun i S1 => .ok (.int (-i)) S1
  | .nt a, ρ, S => (asT (ev C G a ρ S)).bind fun b S1 => .ok (.bl (!b)) S1
  | .and a b, ρ, S => (ev C G a ρ S).bind fun x S1 => match truth x S1 with
    | some true => ev C G b ρ S1
    | some false => .ok x S1
    | none => .bad
  | .or a b, ρ, S => (ev C G a ρ S).bind fun x S1 => match truth x S1 with
    | some true => .ok x S1
    | some false => ev C G b ρ S1
    | none => .bad
  | .cmp op a b, ρ, S => (ev C G a ρ S).bind fun x S1 => (ev C G b ρ S1).bind fun y S2 => R.opt ((cmpD op x y S2).map .bl) S2
  | .cmp2 op op' a b c, ρ, S => (ev C G a ρ S).bind fun x S1 => (ev C G b ρ S1).bind fun y S2 => match cmpD op x y S2 with
    | some true => (ev C G c ρ S2).bind fun z S3 => R.opt ((cmpD op' y z S3).map .bl) S3
    | some false => .ok (.bl false) S2
    | none => .bad
  | .ife c a b, ρ, S => (asT (ev C G c ρ S)).bind fun t S1 => if t then ev C G a ρ S1 else ev C G b ρ S1
  | .call f es, ρ, S => (evs C G es ρ S).bind fun xs S1 => C f xs S1
  | .callk f es ks perm, ρ, S => (evs C G es ρ S).bind fun xs S1 => (evs C G ks ρ S1).bind fun ys S2 => match permL (xs ++ ys) perm with
    | some zs => C f zs S2
    | none => .bad
  | .bi b es, ρ, S => (evs C G es ρ S).bind fun xs S1 => biD b xs S1
  | .mt m o es, ρ, S => (ev C G o ρ S).bind fun x S1 => if isLst x S1 then (evs C G es ρ S1).bind fun xs S2 => mtD m x xs S2 else .bad
  | .dnew, _, S => mk (.dic []) S
  | .gdx t e, ρ, S => (ev C G e ρ S).bind fun x S1 => match x with
    | .str z => R.opt (t.lookup z) S1
    | _ => .bad
  | .ix a b, ρ, S => (ev C G a ρ S).bind fun x S1 => (ev C G b ρ S1).bind fun y S2 => R.opt (ixD x y S2) S2
  | .sl a lo hi, ρ, S => (ev C G a ρ S).bind fun x S1 => (evp C G lo ρ S1).bind fun l S2 => (evp C G hi ρ S2).bind fun h S3 => slD x l h S3
  | .rev a, ρ, S => (ev C G a ρ S).bind fun x S1 => revD x S1
  | .tup es, ρ, S => (evs C G es ρ S).bind fun xs S1 => if xs.length ≤ 1000 then .ok (.tup xs) S1 else .bad
  | .lst es, ρ, S => (evs C G es ρ S).bind fun xs S1 => if xs.length ≤ 1000 then mk (.lst xs) S1 else .bad
  | .lc it tg elt cond vs, ρ, S => (evi C G it ρ S).bind fun src S1 =>
    (lcl src tg (fun ρ1 S2 => asT (ev C G cond ρ1 S2)) (fun ρ1 S2 => ev C G elt ρ1 S2) (wipeE ρ vs) (src.size S1 + 1) 0 [] S1).bind fun ds S2 => mk (.lst ds) S2
  | _, _, _ => .bad
def evs (C : CallSem) (G : Nat → Option D) : Xp → Env → Sto → R (List D)
  | .nil, _, S => .ok [] S
  | .cons a b, ρ, S => (ev C G a ρ S).bind fun x S1 => (evs C G b ρ S1).bind fun xs S2 => .ok (x :: xs) S2
  | _, _, _ => .bad
def evp (C : CallSem) (G : Nat → Option D) : Xp → Env → Sto → R (Option Int)
  | .nil, _, S => .ok none S
  | .cons a _, ρ, S => (asI (ev C G a ρ S)).bind fun i S1 => .ok (some i) S1
  | _, _, _ => .bad
def evi (C : CallSem) (G : Nat → Option D) : Xp → Env → Sto → R Src
  | .itr a, ρ, S => (ev C G a ρ S).bind fun x S1 => R.opt (srcOf x S1) S1
  | .rng1 a, ρ, S => (asI (ev C G a ρ S)).bind fun i S1 => if small62 i then .ok (.ds (rangeD 0 i.toNat)) S1 else .bad
  | .rng2 a b, ρ, S => (asI (ev C G a ρ S)).bind fun i S1 => (asI (ev C G b ρ S1)).bind fun j S2 => if small62 i && small62 j then .ok (.ds (rangeD i (j - i).toNat)) S2 else .bad
  | .zip2 a b, ρ, S => (ev C G a ρ S).bind fun x S1 => (ev C G b ρ S1).bind fun y S2 => match x, y with
    | .loc n, .loc k => match lstAt S2 n, lstAt S2 k with
      | some _, some _ => .ok (.zip n k) S2
      | _, _ => .bad
    | .tup xs, .tup ys => .ok (.ds ((xs.zip ys).map fun p => .tup [p.1, p.2])) S2
    | _, _ => .bad
  | .enum a, ρ, S => (ev C G a ρ S).bind fun x S1 => match x with
    | .loc n => match lstAt S1 n with
      | some _ => .ok (.enum n) S1
      | none => .bad
    | _ => .bad
  | _, _, _ => .bad
end
/-! ### statements -/
inductive Rs where
  | nx (ρ : Env) (S : Sto) | rt (d : D) (S : Sto) | bk (ρ : Env) (S : Sto) | ct (ρ : Env) (S : Sto) | exc (c : Nat) (p : List D) (ρ : Env) (S : Sto) | bad
inductive Sx where
  | pass | ex (e : Xp) | asg (t e : Xp) | par (js : List Nat) (es : Xp) | aug (i : Nat) (op : Operator) (e : Xp)
  | iff (c : Xp) (a b : Sx) | whl (c : Xp) (b : Sx) | for_ (t it : Xp) (b : Sx) | ret (e : Xp) | brk | cont | rse (c : Nat) (e : Xp)
  | tryS (b : Sx) (cs : List (Nat × Bool)) (s : Sx)
  | nil | cons (a b : Sx)
def ofR {α : Type} (r : R α) (ρ : Env) (f : α → Sto → Rs) : Rs := match r with
  | .ok a S => f a S
  | .exc c p S => .exc c p ρ S
  | .bad => .bad
@[simp] theorem ofR_ok {α : Type} (a : α) (S : Sto) (ρ : Env) (f : α → Sto → Rs) : ofR (.ok a S) ρ f = f a S := rfl
@[simp] theorem ofR_bad {α : Type} (ρ : Env) (f : α → Sto → Rs) : ofR (.bad : R α) ρ f = .bad := rfl
@[simp] theorem ofR_exc {α : Type} (c : Nat) (p : List D) (S : Sto) (ρ : Env) (f : α → Sto → Rs) : ofR (.exc c p S : R α) ρ f = .exc c p ρ S := rfl
def setT (C : CallSem) (G : Nat → Option D) (t : Xp) (d : D) (ρ : Env) (S : Sto) : Rs := match t with
  | .ix o i => ofR (ev C G o ρ S) ρ fun x S1 => ofR (ev C G i ρ S1) ρ fun y S2 => match setIx x y d S2 with
    | some S3 => .nx ρ S3
    | none => .bad
  | t => match bindT t d ρ with
    | some ρ1 => .nx ρ1 S
    | none => .bad
def parE : List Nat → List D → Env → Option Env
  | [], [], ρ => some ρ
  | j :: js, d :: ds, ρ => parE js ds (ρ.set j (some d))
  | _, _, _ => none
def whl (c : Env → Sto → R Bool) (b : Env → Sto → Rs) : Nat → Env → Sto → Rs
  | 0, _, _ => .bad
  | n + 1, ρ, S => ofR (c ρ S) ρ fun t S1 => if t then (match b ρ S1 with
    | .nx ρ2 S2 => whl c b n ρ2 S2
    | .ct ρ2 S2 => whl c b n ρ2 S2
    | .bk ρ2 S2 => .nx ρ2 S2
    | r => r) else .nx ρ S1
def forl (src : Src) (tg : Xp) (b : Env → Sto → Rs) : Nat → Nat → Env → Sto → Rs
  | 0, _, _, _ => .bad
  | n + 1, i, ρ, S => match src.get i S with
    | none => .bad
    | some none => .nx ρ S
    | some (some d) => match bindT tg d ρ with
      | none => .bad
      | some ρ1 => match b ρ1 S with
        | .nx ρ2 S2 => forl src tg b n (i + 1) ρ2 S2
        | .ct ρ2 S2 => forl src tg b n (i + 1) ρ2 S2
        | .bk ρ2 S2 => .nx ρ2 S2
        | r => r
def run (W : Nat) (C : CallSem) (G : Nat → Option D) : Sx → Env → Sto → Rs
  | .pass, ρ, S => .nx ρ S
  | .ex e, ρ, S => ofR (ev C G e ρ S) ρ fun _ S1 => .nx ρ S1
  | .asg t e, ρ, S => ofR (ev C G e ρ S) ρ fun d S1 => setT C G t d ρ S1
  | .par js es, ρ, S => ofR (evs C G es ρ S) ρ fun ds S1 => match parE js ds ρ with
    | some ρ1 => .nx ρ1 S1
    | none => .bad
  | .aug i op e, ρ, S => match ρ[i]?.bind id with
    | some x => ofR (ev C G e ρ S) ρ fun y S1 => ofR (augD op x y S1) ρ fun z S2 => .nx (ρ.set i (some z)) S2
    | none => .bad
  | .iff c a b, ρ, S => ofR (asT (ev C G c ρ S)) ρ fun t S1 => if t then run W C G a ρ S1 else run W C G b ρ S1
  | .whl c b, ρ, S => whl (fun ρ S => asT (ev C G c ρ S)) (fun ρ S => run W C G b ρ S) W ρ S
  | .for_ t it b, ρ, S => ofR (evi C G it ρ S) ρ fun src S1 => forl src t (fun ρ S => run W C G b ρ S) (src.size S1 + 1) 0 ρ S1
  | .ret e, ρ, S => ofR (ev C G e ρ S) ρ fun d S1 => .rt d S1
  | .brk, ρ, S => .bk ρ S
  | .cont, ρ, S => .ct ρ S
  | .rse c e, ρ, S => ofR (evs C G e ρ S) ρ fun p S1 => .exc c p ρ S1
  | .tryS b cs s, ρ, S => match run W C G b ρ S with
    | .exc c' p ρ1 S1 => match cs.lookup c' with
      | some true => run W C G s ρ1 S1
      | some false => .exc c' p ρ1 S1
      | none => .bad
    | r => r
  | .nil, ρ, S => .nx ρ S
  | .cons a b, ρ, S => match run W C G a ρ S with
    | .nx ρ1 S1 => run W C G b ρ1 S1
    | r => r
/-! ### defs -/
structure Fd where
  np : Nat
  n : Nat
  body : Sx
def startE (n : Nat) (ds : List D) : Env := ds.map some ++ List.replicate (n - ds.length) none
def endR (r : Rs) : R D := match r with
  | .nx _ S => .ok .non S
  | .rt d S => .ok d S
  | .exc c p _ S => .exc c p S
  | _ => .bad
def callF (W : Nat) (G : Nat → Option D) (T : Nat → Option Fd) : Nat → CallSem
  | 0, _, _, _ => .bad
  | k + 1, f, ds, S => match T f with
    | some fd => if ds.length = fd.np then endR (run W (callF W G T k) G fd.body (startE fd.n ds) S) else .bad
    | none => .bad
end CC

namespace CC
open PySem PySem.Spec PyProof.Rows L2

/-- a tuple that may be read: tracked, or of the written part -/
def SqU (K : PySem.W.Frag) (H : Hp) (a : Addr) (xs : List V) : Prop :=
  H a = some (.tup xs) ∨ ∃ (o : Obj) (its : Array Value) (n : Nat), K.lookup a = some o ∧ o.cls = .type "tuple" ∧ o.data = .seq its n ∧ its.size ≤ sizeLine ∧ Vals xs its.toList
theorem SqU.t {K : PySem.W.Frag} {H : Hp} {a : Addr} {xs : List V} (h : SqU K H a xs) : SqT K H a xs := by
  rcases h with h | h
  · exact .inl (.inl h)
  · exact .inr h
/-! ### data and values -/
/-- where the stores' places lie; true: an object of the written part -/
abbrev Mp := List (Addr × Bool)
mutual
inductive Rp (K : PySem.W.Frag) (mg : Str → Option Value) (m : Mp) (H : Hp) : D → V → Prop
  | non : Rp K mg m H .non .non
  | bl (b : Bool) : Rp K mg m H (.bl b) (.bl b)
  | int (i : Int) : Rp K mg m H (.int i) (.int i)
  | str (x : Str) : Rp K mg m H (.str x) (.str x)
  | ty (t : String) : Rp K mg m H (.ty t) (.ty t)
  | fn {x : Str} {a : Addr} (h : mg x = some (.ref a)) : Rp K mg m H (.fn x) (.ref a)
  | tup {a : Addr} {vs : List V} {ds : List D} (h : SqU K H a vs) (hs : Rps K mg m H ds vs) : Rp K mg m H (.tup ds) (.ref a)
  | loc {n : Nat} {a : Addr} {b : Bool} (h : m[n]? = some (a, b)) : Rp K mg m H (.loc n) (.ref a)
inductive Rps (K : PySem.W.Frag) (mg : Str → Option Value) (m : Mp) (H : Hp) : List D → List V → Prop
  | nil : Rps K mg m H [] []
  | cons {d : D} {v : V} {ds : List D} {vs : List V} (h : Rp K mg m H d v) (hs : Rps K mg m H ds vs) : Rps K mg m H (d :: ds) (v :: vs)
end
/-- what may have come: the mapped addresses stay mapped, tuples stay, what is tracked and not mapped stays as it is -/
structure Le (m m' : Mp) (H H' : Hp) : Prop where
  pre : ∀ (n : Nat) (a : Addr × Bool), m[n]? = some a → m'[n]? = some a
  tup : ∀ (a : Addr) (vs : List V), H a = some (.tup vs) → H' a = some (.tup vs)
  frame : ∀ (a : Addr) (o : HO), H a = some o → (a, false) ∉ m → H' a = some o ∧ (a, false) ∉ m'
/-- .. of which data knows -/
structure Lt (m m' : Mp) (H H' : Hp) : Prop where
  pre : ∀ (n : Nat) (a : Addr × Bool), m[n]? = some a → m'[n]? = some a
  tup : ∀ (a : Addr) (vs : List V), H a = some (.tup vs) → H' a = some (.tup vs)
theorem Le.lt {m m' : Mp} {H H' : Hp} (l : Le m m' H H') : Lt m m' H H' := ⟨l.pre, l.tup⟩
theorem Le.refl (m : Mp) (H : Hp) : Le m m H H := ⟨fun _ _ h => h, fun _ _ h => h, fun _ _ h n => ⟨h, n⟩⟩
theorem Le.trans {m m1 m2 : Mp} {H H1 H2 : Hp} (a : Le m m1 H H1) (b : Le m1 m2 H1 H2) : Le m m2 H H2 :=
  ⟨fun n x h => b.pre n x (a.pre n x h), fun x vs h => b.tup x vs (a.tup x vs h), fun x o h n => let ⟨h1, n1⟩ := a.frame x o h n; b.frame x o h1 n1⟩
section
variable {K : PySem.W.Frag} {mg : Str → Option Value} {m m' : Mp} {H H' : Hp}
theorem sqT_lt (l : Lt m m' H H') {a : Addr} {vs : List V} (h : SqU K H a vs) : SqU K H' a vs := by
  rcases h with h | h
  · exact .inl (l.tup a vs h)
  · exact .inr h
theorem sqT_le (l : Le m m' H H') {a : Addr} {vs : List V} (h : SqU K H a vs) : SqU K H' a vs := sqT_lt l.lt h
mutual
theorem Rp.mov (l : Lt m m' H H') : ∀ {d : D} {v : V}, Rp K mg m H d v → Rp K mg m' H' d v
  | _, _, .non => .non
  | _, _, .bl b => .bl b
  | _, _, .int i => .int i
  | _, _, .str x => .str x
  | _, _, .ty t => .ty t
  | _, _, .fn h => .fn h
  | _, _, .tup h hs => .tup (sqT_lt l h) (Rps.mov l hs)
  | _, _, .loc h => .loc (l.pre _ _ h)
theorem Rps.mov (l : Lt m m' H H') : ∀ {ds : List D} {vs : List V}, Rps K mg m H ds vs → Rps K mg m' H' ds vs
  | _, _, .nil => .nil
  | _, _, .cons h hs => .cons (Rp.mov l h) (Rps.mov l hs)
end
theorem Rp.mono (l : Le m m' H H') {d : D} {v : V} (h : Rp K mg m H d v) : Rp K mg m' H' d v := h.mov l.lt
theorem Rps.mono (l : Le m m' H H') {ds : List D} {vs : List V} (h : Rps K mg m H ds vs) : Rps K mg m' H' ds vs := h.mov l.lt
theorem Rps.length : ∀ {ds : List D} {vs : List V}, Rps K mg m H ds vs → vs.length = ds.length
  | _, _, .nil => rfl
  | _, _, .cons _ hs => by rw [List.length_cons, List.length_cons, Rps.length hs]
theorem Rps.get : ∀ {ds : List D} {vs : List V} {i : Nat} {d : D}, Rps K mg m H ds vs → ds[i]? = some d → ∃ v, vs[i]? = some v ∧ Rp K mg m H d v
  | _, _, _, _, .nil, e => by simp at e
  | _, _, 0, _, .cons h _, e => by simp at e; subst e; exact ⟨_, rfl, h⟩
  | _, _, i + 1, d, .cons _ hs, e => by
    obtain ⟨v, h1, h2⟩ := Rps.get (i := i) (d := d) hs (by simpa using e)
    exact ⟨v, by simpa using h1, h2⟩
theorem Rps.get' : ∀ {ds : List D} {vs : List V} {i : Nat} {v : V}, Rps K mg m H ds vs → vs[i]? = some v → ∃ d, ds[i]? = some d ∧ Rp K mg m H d v
  | _, _, _, _, .nil, e => by simp at e
  | _, _, 0, _, .cons h _, e => by simp at e; subst e; exact ⟨_, rfl, h⟩
  | _, _, i + 1, v, .cons _ hs, e => by
    obtain ⟨d, h1, h2⟩ := Rps.get' (i := i) (v := v) hs (by simpa using e)
    exact ⟨d, by simpa using h1, h2⟩
theorem Rps.append : ∀ {ds es : List D} {vs ws : List V}, Rps K mg m H ds vs → Rps K mg m H es ws → Rps K mg m H (ds ++ es) (vs ++ ws)
  | _, _, _, _, .nil, s => s
  | _, _, _, _, .cons h hs, s => .cons h (Rps.append hs s)
theorem Rps.take : ∀ {ds : List D} {vs : List V} (n : Nat), Rps K mg m H ds vs → Rps K mg m H (ds.take n) (vs.take n)
  | _, _, 0, _ => .nil
  | _, _, _ + 1, .nil => .nil
  | _, _, n + 1, .cons h hs => .cons h (Rps.take n hs)
theorem Rps.drop : ∀ {ds : List D} {vs : List V} (n : Nat), Rps K mg m H ds vs → Rps K mg m H (ds.drop n) (vs.drop n)
  | _, _, 0, h => h
  | _, _, _ + 1, .nil => .nil
  | _, _, n + 1, .cons _ hs => Rps.drop n hs
theorem Rps.set {d : D} {v : V} (r : Rp K mg m H d v) : ∀ {ds : List D} {vs : List V} (i : Nat), Rps K mg m H ds vs → Rps K mg m H (ds.set i d) (vs.set i v)
  | _, _, _, .nil => .nil
  | _, _, 0, .cons _ hs => .cons r hs
  | _, _, i + 1, .cons h hs => .cons h (Rps.set r i hs)
theorem Rps.reverse : ∀ {ds : List D} {vs : List V}, Rps K mg m H ds vs → Rps K mg m H ds.reverse vs.reverse
  | _, _, .nil => .nil
  | _, _, .cons h hs => by
    rw [List.reverse_cons, List.reverse_cons]
    exact Rps.append (Rps.reverse hs) (.cons h .nil)
theorem Rps.flatten {ds : List D} {vs : List V} (h : Rps K mg m H ds vs) : ∀ k : Nat, Rps K mg m H (List.replicate k ds).flatten (List.replicate k vs).flatten
  | 0 => .nil
  | k + 1 => by
    rw [List.replicate_succ, List.replicate_succ, List.flatten_cons, List.flatten_cons]
    exact Rps.append h (Rps.flatten h k)
theorem Rps.cut {ds : List D} {vs : List V} (h : Rps K mg m H ds vs) (lo hi : Option Int) : Rps K mg m H (CC.cut ds lo hi) (cutV vs lo hi) := by
  unfold CC.cut cutV
  rw [h.length]
  exact Rps.take _ (Rps.drop _ h)
theorem Rps.atI {ds : List D} {vs : List V} {i : Int} {d : D} (h : Rps K mg m H ds vs) (e : L2.atI ds i = some d) : ∃ v, L2.atI vs i = some v ∧ Rp K mg m H d v := by
  unfold L2.atI at e ⊢
  rw [h.length]
  cases q : ixN ds.length i with
  | none => rw [q] at e; simp at e
  | some j =>
    rw [q] at e
    obtain ⟨v, h1, h2⟩ := h.get (i := j) (d := d) (by simpa using e)
    exact ⟨v, by simpa using h1, h2⟩
theorem Rps.ints : ∀ {ds : List D} {vs : List V} {ns : List Int}, Rps K mg m H ds vs → intsOf ds = some ns → vs = ns.map V.int
  | _, _, _, .nil, e => by cases e; rfl
  | .int i :: r, _, ns, .cons (.int _) hs, e => by
    unfold intsOf at e
    cases q : intsOf r with
    | none => rw [q] at e; cases e
    | some l =>
      rw [q] at e
      cases e
      rw [Rps.ints hs q]
      rfl
  | .non :: _, _, _, .cons _ _, e => by cases e
  | .bl _ :: _, _, _, .cons _ _, e => by cases e
  | .str _ :: _, _, _, .cons _ _, e => by cases e
  | .tup _ :: _, _, _, .cons _ _, e => by cases e
  | .loc _ :: _, _, _, .cons _ _, e => by cases e
  | .ty _ :: _, _, _, .cons _ _, e => by cases e
  | .fn _ :: _, _, _, .cons _ _, e => by cases e
theorem Rps.bls : ∀ {ds : List D} {vs : List V} {ns : List Bool}, Rps K mg m H ds vs → blsOf ds = some ns → vs = ns.map V.bl
  | _, _, _, .nil, e => by cases e; rfl
  | .bl i :: r, _, ns, .cons (.bl _) hs, e => by
    unfold blsOf at e
    cases q : blsOf r with
    | none => rw [q] at e; cases e
    | some l =>
      rw [q] at e
      cases e
      rw [Rps.bls hs q]
      rfl
  | .non :: _, _, _, .cons _ _, e => by cases e
  | .int _ :: _, _, _, .cons _ _, e => by cases e
  | .str _ :: _, _, _, .cons _ _, e => by cases e
  | .tup _ :: _, _, _, .cons _ _, e => by cases e
  | .loc _ :: _, _, _, .cons _ _, e => by cases e
  | .ty _ :: _, _, _, .cons _ _, e => by cases e
  | .fn _ :: _, _, _, .cons _ _, e => by cases e
end
/-! ### stores and heaps -/
def SqF (K : PySem.W.Frag) (H : Hp) (a : Addr × Bool) (xs : List V) : Prop :=
  (a.2 = false ∧ ∃ o, H a.1 = some (.frz o (.lst xs))) ∨ (a.2 = true ∧ ∃ (o : Obj) (its : Array Value) (n : Nat), K.lookup a.1 = some o ∧ o.cls = .type "list" ∧ o.dict = none ∧ o.data = .seq its n ∧ its.size ≤ sizeLine ∧ Vals xs its.toList)
theorem SqF.sq {K : PySem.W.Frag} {H : Hp} {a : Addr × Bool} {xs : List V} (h : SqF K H a xs) : SqL K H a.1 xs := by
  rcases h with ⟨_, o, h⟩ | ⟨_, h⟩
  · exact .inl (.inr ⟨o, h⟩)
  · exact .inr h
def Kvs (K : PySem.W.Frag) (mg : Str → Option Value) (m : Mp) (H : Hp) (kvs : List (Key × D)) (ks : List (Key × V)) : Prop := kvs.map (·.1) = ks.map (·.1) ∧ Rps K mg m H (kvs.map (·.2)) (ks.map (·.2))
def RO (K : PySem.W.Frag) (mg : Str → Option Value) (m : Mp) (H : Hp) (so : SO) (a : Addr × Bool) : Prop := match so with
  | .lst ds => ∃ vs, a.2 = false ∧ H a.1 = some (.lst vs) ∧ Rps K mg m H ds vs
  | .frz ds => ∃ vs, SqF K H a vs ∧ Rps K mg m H ds vs
  | .dic kvs => ∃ ks, a.2 = false ∧ H a.1 = some (.dK ks) ∧ Kvs K mg m H kvs ks
  | .ins _ _ => False
structure RelA (K : PySem.W.Frag) (mg : Str → Option Value) (m : Mp) (H : Hp) (S : Sto) : Prop where
  len : m.length = S.length
  nd : ∀ (n k : Nat) (a : Addr), m[n]? = some (a, false) → m[k]? = some (a, false) → n = k
  at_ : ∀ (n : Nat) (a : Addr × Bool) (so : SO), m[n]? = some a → S[n]? = some so → RO K mg m H so a
structure RelE (K : PySem.W.Frag) (mg : Str → Option Value) (m : Mp) (H : Hp) (σ : L2.St) (ρ : Env) : Prop where
  len : σ.length = ρ.length
  at_ : ∀ (i : Nat) (d : D), ρ[i]? = some (some d) → ∃ v, σ[i]? = some (some v) ∧ Rp K mg m H d v
section
variable {K : PySem.W.Frag} {mg : Str → Option Value} {m m' : Mp} {H H' : Hp} {S : Sto} {σ : L2.St} {ρ : Env}
theorem RelE.mono (l : Le m m' H H') (r : RelE K mg m H σ ρ) : RelE K mg m' H' σ ρ :=
  ⟨r.len, fun i d e => let ⟨v, h1, h2⟩ := r.at_ i d e; ⟨v, h1, h2.mono l⟩⟩
theorem RelE.set (r : RelE K mg m H σ ρ) {i : Nat} {d : D} {v : V} (h : Rp K mg m H d v) : RelE K mg m H (σ.set i (some v)) (ρ.set i (some d)) := by
  refine ⟨by rw [List.length_set, List.length_set, r.len], fun j e hj => ?_⟩
  by_cases hij : i = j
  · subst hij
    by_cases hl : i < ρ.length
    · rw [List.getElem?_set_self hl] at hj
      cases hj
      exact ⟨v, by rw [List.getElem?_set_self (by rw [r.len]; exact hl)], h⟩
    · rw [List.getElem?_eq_none (by simpa using hl)] at hj
      cases hj
  · rw [List.getElem?_set_ne hij] at hj
    obtain ⟨w, h1, h2⟩ := r.at_ j e hj
    exact ⟨w, by rw [List.getElem?_set_ne hij]; exact h1, h2⟩
theorem RelE.clear (r : RelE K mg m H σ ρ) (i : Nat) : RelE K mg m H (σ.set i none) (ρ.set i none) := by
  refine ⟨by rw [List.length_set, List.length_set, r.len], fun j e hj => ?_⟩
  by_cases hij : i = j
  · subst hij
    by_cases hl : i < ρ.length
    · rw [List.getElem?_set_self hl] at hj
      cases hj
    · rw [List.getElem?_eq_none (by simpa using hl)] at hj
      cases hj
  · rw [List.getElem?_set_ne hij] at hj
    obtain ⟨w, h1, h2⟩ := r.at_ j e hj
    exact ⟨w, by rw [List.getElem?_set_ne hij]; exact h1, h2⟩
theorem RelE.wipe (r : RelE K mg m H σ ρ) : ∀ vs : List Nat, RelE K mg m H (L2.wipe σ vs) (wipeE ρ vs)
  | [] => r
  | v :: vs => (RelE.wipe r vs).clear v
/-- a lst or frz read at a place -/
theorem RelA.seq (r : RelA K mg m H S) {n : Nat} {a : Addr} {b : Bool} {ds : List D} (hm : m[n]? = some (a, b)) (h : lstAt S n = some ds) : ∃ vs, SqL K H a vs ∧ Rps K mg m H ds vs := by
  unfold lstAt at h
  cases q : S[n]? with
  | none => rw [q] at h; cases h
  | some so =>
    rw [q] at h
    have z := r.at_ n (a, b) so hm q
    cases so with
    | lst xs =>
      cases h
      obtain ⟨vs, _, h1, h2⟩ := z
      exact ⟨vs, SqL.of h1, h2⟩
    | frz xs =>
      cases h
      obtain ⟨vs, h1, h2⟩ := z
      exact ⟨vs, h1.sq, h2⟩
    | dic _ => cases h
    | ins _ _ => cases h
theorem RelA.lst (r : RelA K mg m H S) {n : Nat} {a : Addr} {b : Bool} {ds : List D} (hm : m[n]? = some (a, b)) (h : S[n]? = some (.lst ds)) : ∃ vs, H a = some (.lst vs) ∧ Rps K mg m H ds vs := by
  obtain ⟨vs, _, h1, h2⟩ := r.at_ n (a, b) _ hm h
  exact ⟨vs, h1, h2⟩
theorem sqF_new {p : Addr} {o : HO} (hp : H p = none) {a : Addr × Bool} {xs : List V} (h : SqF K H a xs) : SqF K (upd H p o) a xs := by
  rcases h with ⟨b, z, h⟩ | h
  · exact .inl ⟨b, z, by rw [upd_ne (ne_of_none h hp)]; exact h⟩
  · exact .inr h
/-- a place's address is tracked, or of the written part -/
theorem RelA.there (r : RelA K mg m H S) {n : Nat} {a : Addr} (hm : m[n]? = some (a, false)) : H a ≠ none := by
  have hn : n < S.length := by rw [← r.len]; exact (List.getElem?_eq_some_iff.mp hm).1
  have z := r.at_ n (a, false) S[n] hm (List.getElem?_eq_getElem hn)
  cases q : S[n] with
  | lst xs =>
    rw [q] at z
    obtain ⟨ws, _, h1, _⟩ := z
    rw [h1]
    simp
  | frz xs =>
    rw [q] at z
    obtain ⟨ws, h1, _⟩ := z
    rcases h1 with ⟨_, o, h1⟩ | ⟨b, _⟩
    · rw [h1]; simp
    · cases b
  | dic _ =>
    rw [q] at z
    obtain ⟨ws, _, h1, _⟩ := z
    rw [h1]
    simp
  | ins _ _ => rw [q] at z; exact z.elim
theorem RelA.notin (r : RelA K mg m H S) {a : Addr} (h : H a = none) : (a, false) ∉ m := fun z => by
  obtain ⟨n, hn⟩ := List.mem_iff_getElem?.mp z
  exact r.there hn h
/-- a new object that no place maps -/
theorem Le.new {p : Addr} {o : HO} (hp : H p = none) : Le m m H (upd H p o) :=
  ⟨fun _ _ h => h, fun _ _ h => by rw [upd_ne (ne_of_none h hp)]; exact h, fun a u h n => ⟨by rw [upd_ne (ne_of_none h hp)]; exact h, n⟩⟩
theorem RO.new {p : Addr} {o : HO} (hp : H p = none) {so : SO} {a : Addr × Bool} (l : Le m m' H (upd H p o)) (h : RO K mg m H so a) : RO K mg m' (upd H p o) so a := by
  cases so with
  | lst ds =>
    obtain ⟨vs, b, h1, h2⟩ := h
    exact ⟨vs, b, by rw [upd_ne (ne_of_none h1 hp)]; exact h1, h2.mono l⟩
  | frz ds =>
    obtain ⟨vs, h1, h2⟩ := h
    exact ⟨vs, sqF_new hp h1, h2.mono l⟩
  | dic _ =>
    obtain ⟨vs, b, h1, h2, h3⟩ := h
    exact ⟨vs, b, by rw [upd_ne (ne_of_none h1 hp)]; exact h1, h2, h3.mono l⟩
  | ins _ _ => exact h
theorem RelA.new (r : RelA K mg m H S) {p : Addr} {o : HO} (hp : H p = none) : RelA K mg m (upd H p o) S :=
  ⟨r.len, r.nd, fun n a so hm hs => (r.at_ n a so hm hs).new hp (Le.new hp)⟩
theorem Le.alloc {p : Addr} {o : HO} (hp : H p = none) : Le m (m ++ [(p, false)]) H (upd H p o) :=
  ⟨fun n a h => by rw [List.getElem?_append_left (List.getElem?_eq_some_iff.mp h).1]; exact h, fun _ _ h => by rw [upd_ne (ne_of_none h hp)]; exact h,
    fun a u h n => ⟨by rw [upd_ne (ne_of_none h hp)]; exact h, fun z => by
      rcases List.mem_append.mp z with z | z
      · exact n z
      · exact ne_of_none h hp (by simpa using z)⟩⟩
theorem RelA.alloc (r : RelA K mg m H S) {p : Addr} {ds : List D} {vs : List V} (hp : H p = none) (hs : Rps K mg m H ds vs) : RelA K mg (m ++ [(p, false)]) (upd H p (.lst vs)) (S ++ [.lst ds]) := by
  have old : ∀ (n : Nat) (a : Addr × Bool), m[n]? = some a → n < S.length := fun n a h => by rw [← r.len]; exact (List.getElem?_eq_some_iff.mp h).1
  have cases_ : ∀ (n : Nat) (a : Addr × Bool), (m ++ [(p, false)])[n]? = some a → m[n]? = some a ∨ (n = m.length ∧ a = (p, false)) := fun n a h => by
    by_cases hn : n < m.length
    · rw [List.getElem?_append_left hn] at h
      exact .inl h
    · rw [List.getElem?_append_right (by omega)] at h
      have : n - m.length = 0 := by
        cases q : n - m.length with
        | zero => rfl
        | succ j => rw [q] at h; simp at h
      rw [this] at h
      exact .inr ⟨by omega, by simpa using h.symm⟩
  refine ⟨by rw [List.length_append, List.length_append, r.len]; rfl, fun n k a hn hk => ?_, fun n a so hn hso => ?_⟩
  · rcases cases_ n _ hn with h1 | ⟨h1, e1⟩
    · rcases cases_ k _ hk with h2 | ⟨h2, e2⟩
      · exact r.nd n k a h1 h2
      · cases e2
        exact absurd hp (r.there h1)
    · rcases cases_ k _ hk with h2 | ⟨h2, _⟩
      · cases e1
        exact absurd hp (r.there h2)
      · exact h1.trans h2.symm
  · rcases cases_ n a hn with h1 | ⟨h1, e1⟩
    · rw [List.getElem?_append_left (old n a h1)] at hso
      exact (r.at_ n a so h1 hso).new hp (Le.alloc hp)
    · subst e1
      rw [h1, r.len, List.getElem?_append_right (Nat.le_refl _)] at hso
      have : so = .lst ds := by simpa using hso.symm
      subst this
      exact ⟨vs, rfl, upd_same, hs.mono (Le.alloc hp)⟩
theorem RelA.at_new (r : RelA K mg m H S) (p : Addr) : (m ++ [(p, false)])[S.length]? = some (p, false) := by
  rw [← r.len, List.getElem?_append_right (Nat.le_refl _)]
  simp
/-- a list that no place maps grows -/
theorem Lt.scratch {p : Addr} {xs ys : List V} (h : H p = some (.lst xs)) : Lt m m H (upd H p (.lst ys)) :=
  ⟨fun _ _ z => z, fun b zs z => by rw [upd_ne (fun q => by rw [q, h] at z; cases z)]; exact z⟩
theorem RelA.scratch (r : RelA K mg m H S) {p : Addr} {xs ys : List V} (h : H p = some (.lst xs)) (hn : (p, false) ∉ m) : RelA K mg m (upd H p (.lst ys)) S :=
  ⟨r.len, r.nd, fun n a so hm hs => by
    have z := r.at_ n a so hm hs
    obtain ⟨a1, a2⟩ := a
    cases so with
    | lst ds =>
      obtain ⟨us, hb, h1, h2⟩ := z
      have hb' : a2 = false := hb
      subst hb'
      have : a1 ≠ p := fun q => hn (q ▸ List.mem_of_getElem? hm)
      exact ⟨us, rfl, by rw [upd_ne this]; exact h1, h2.mov (Lt.scratch h)⟩
    | frz ds =>
      obtain ⟨us, h1, h2⟩ := z
      refine ⟨us, ?_, h2.mov (Lt.scratch h)⟩
      rcases h1 with ⟨hb, o, h1⟩ | h1
      · have : a1 ≠ p := fun q => by
          have h1' : H a1 = some (.frz o (.lst us)) := h1
          rw [q, h] at h1'
          cases h1'
        exact .inl ⟨hb, o, by rw [upd_ne this]; exact h1⟩
      · exact .inr h1
    | dic _ =>
      obtain ⟨us, hb, h1, h2, h3⟩ := z
      have hb' : a2 = false := hb
      subst hb'
      have : a1 ≠ p := fun q => hn (q ▸ List.mem_of_getElem? hm)
      exact ⟨us, rfl, by rw [upd_ne this]; exact h1, h2, h3.mov (Lt.scratch h)⟩
    | ins _ _ => exact z⟩
theorem Le.scratch {m1 m3 : Mp} {H1 H4 : Hp} (l : Le m1 m3 H1 H4) {p : Addr} {o : HO} (hp : H1 p = none) : Le m1 m3 H1 (upd H4 p o) :=
  ⟨l.pre, fun a vs h => by rw [upd_ne (ne_of_none h hp)]; exact l.tup a vs h, fun a u h n => by
    obtain ⟨h1, h2⟩ := l.frame a u h n
    exact ⟨by rw [upd_ne (ne_of_none h hp)]; exact h1, h2⟩⟩
/-- such a list comes to the stores -/
theorem RelA.adopt (r : RelA K mg m H S) {p : Addr} {ds : List D} {vs : List V} (h : H p = some (.lst vs)) (hn : (p, false) ∉ m) (hs : Rps K mg m H ds vs) : RelA K mg (m ++ [(p, false)]) H (S ++ [.lst ds]) := by
  have lt : Lt m (m ++ [(p, false)]) H H := ⟨fun n a h => by rw [List.getElem?_append_left (List.getElem?_eq_some_iff.mp h).1]; exact h, fun _ _ h => h⟩
  have old : ∀ (n : Nat) (a : Addr × Bool), m[n]? = some a → n < S.length := fun n a h => by rw [← r.len]; exact (List.getElem?_eq_some_iff.mp h).1
  have cases_ : ∀ (n : Nat) (a : Addr × Bool), (m ++ [(p, false)])[n]? = some a → m[n]? = some a ∨ (n = m.length ∧ a = (p, false)) := fun n a h => by
    by_cases hn : n < m.length
    · rw [List.getElem?_append_left hn] at h
      exact .inl h
    · rw [List.getElem?_append_right (by omega)] at h
      have : n - m.length = 0 := by
        cases q : n - m.length with
        | zero => rfl
        | succ j => rw [q] at h; simp at h
      rw [this] at h
      exact .inr ⟨by omega, by simpa using h.symm⟩
  refine ⟨by rw [List.length_append, List.length_append, r.len]; rfl, fun n k a hn' hk => ?_, fun n a so hn' hso => ?_⟩
  · rcases cases_ n _ hn' with h1 | ⟨h1, e1⟩
    · rcases cases_ k _ hk with h2 | ⟨h2, e2⟩
      · exact r.nd n k a h1 h2
      · cases e2
        exact absurd (List.mem_of_getElem? h1) hn
    · rcases cases_ k _ hk with h2 | ⟨h2, _⟩
      · cases e1
        exact absurd (List.mem_of_getElem? h2) hn
      · exact h1.trans h2.symm
  · rcases cases_ n a hn' with h1 | ⟨h1, e1⟩
    · rw [List.getElem?_append_left (old n a h1)] at hso
      have z := r.at_ n a so h1 hso
      cases so with
      | lst xs => obtain ⟨us, b, g1, g2⟩ := z; exact ⟨us, b, g1, g2.mov lt⟩
      | frz xs => obtain ⟨us, g1, g2⟩ := z; exact ⟨us, g1, g2.mov lt⟩
      | dic _ => obtain ⟨us, b, g1, g2, g3⟩ := z; exact ⟨us, b, g1, g2, g3.mov lt⟩
      | ins _ _ => exact z
    · subst e1
      rw [h1, r.len, List.getElem?_append_right (Nat.le_refl _)] at hso
      have : so = .lst ds := by simpa using hso.symm
      subst this
      exact ⟨vs, rfl, h, hs.mov lt⟩
theorem Le.write (r : RelA K mg m H S) {n : Nat} {a : Addr} {b : Bool} {ds : List D} {vs ws : List V} (hm : m[n]? = some (a, b)) (hS : S[n]? = some (.lst ds)) (h : H a = some (.lst vs)) : Le m m H (upd H a (.lst ws)) := by
  have ne : ∀ {b : Addr} {o : HO}, H b = some o → o ≠ .lst vs → b ≠ a := fun {b o} e d z => by
    subst z
    rw [h] at e
    exact d (Option.some.inj e).symm
  obtain ⟨_, hb, _⟩ := r.at_ n (a, b) _ hm hS
  have hb' : b = false := hb
  subst hb'
  refine ⟨fun _ _ z => z, fun b xs z => ?_, fun b o z nb => ⟨?_, nb⟩⟩
  · rw [upd_ne (ne z (fun q => nomatch q))]
    exact z
  · have : b ≠ a := fun q => nb (q ▸ List.mem_of_getElem? hm)
    rw [upd_ne this]
    exact z
theorem RelA.write (r : RelA K mg m H S) {n : Nat} {a : Addr} {b : Bool} {ds es : List D} {vs ws : List V} (hm : m[n]? = some (a, b)) (hS : S[n]? = some (.lst ds)) (h : H a = some (.lst vs)) (hs : Rps K mg m H es ws) :
    RelA K mg m (upd H a (.lst ws)) (S.set n (.lst es)) := by
  have hn : n < S.length := (List.getElem?_eq_some_iff.mp hS).1
  have l : Le m m H (upd H a (.lst ws)) := Le.write r hm hS h
  obtain ⟨_, hb, _⟩ := r.at_ n (a, b) _ hm hS
  have hb' : b = false := hb
  subst hb'
  refine ⟨by rw [List.length_set, r.len], r.nd, fun k b so hk hso => ?_⟩
  by_cases e : n = k
  · subst e
    rw [List.getElem?_set_self hn] at hso
    cases hso
    rw [hm] at hk
    cases hk
    exact ⟨ws, rfl, upd_same, hs.mono l⟩
  · rw [List.getElem?_set_ne e] at hso
    have z := r.at_ k b so hk hso
    cases so with
    | lst xs =>
      obtain ⟨us, hb, h1, h2⟩ := z
      obtain ⟨b1, b2⟩ := b
      have hb' : b2 = false := hb
      subst hb'
      have : b1 ≠ a := fun q => by
        subst q
        exact e (r.nd n k b1 hm hk)
      exact ⟨us, rfl, by rw [upd_ne this]; exact h1, h2.mono l⟩
    | frz xs =>
      obtain ⟨us, h1, h2⟩ := z
      refine ⟨us, ?_, h2.mono l⟩
      rcases h1 with ⟨hb, o, h1⟩ | h1
      · have : b.1 ≠ a := fun q => by
          rw [q, h] at h1
          cases h1
        exact .inl ⟨hb, o, by rw [upd_ne this]; exact h1⟩
      · exact .inr h1
    | dic _ =>
      obtain ⟨us, hb, h1, h2, h3⟩ := z
      obtain ⟨b1, b2⟩ := b
      have hb' : b2 = false := hb
      subst hb'
      have : b1 ≠ a := fun q => by
        subst q
        exact e (r.nd n k b1 hm hk)
      exact ⟨us, rfl, by rw [upd_ne this]; exact h1, h2, h3.mono l⟩
    | ins _ _ => exact z
/-- an object of the stores is replaced -/
def OwnO : HO → Prop
  | .lst _ => True
  | .dK _ => True
  | _ => False
theorem Le.writeO {n : Nat} {a : Addr} {o o' : HO} (hm : m[n]? = some (a, false)) (h : H a = some o) (ho : OwnO o) : Le m m H (upd H a o') := by
  refine ⟨fun _ _ z => z, fun b xs z => ?_, fun b u z nb => ⟨?_, nb⟩⟩
  · have : b ≠ a := fun q => by
      subst q
      rw [h] at z
      cases z
      exact ho
    rw [upd_ne this]
    exact z
  · have : b ≠ a := fun q => nb (q ▸ List.mem_of_getElem? hm)
    rw [upd_ne this]
    exact z
theorem RelA.writeO (r : RelA K mg m H S) {n : Nat} {a : Addr} {o o' : HO} {so : SO} (hm : m[n]? = some (a, false)) (h : H a = some o) (ho : OwnO o) (new : RO K mg m (upd H a o') so (a, false)) : RelA K mg m (upd H a o') (S.set n so) := by
  have hn : n < S.length := by rw [← r.len]; exact (List.getElem?_eq_some_iff.mp hm).1
  have l : Le m m H (upd H a o') := Le.writeO hm h ho
  refine ⟨by rw [List.length_set, r.len], r.nd, fun k b so' hk hso => ?_⟩
  by_cases e : n = k
  · subst e
    rw [List.getElem?_set_self hn] at hso
    cases hso
    rw [hm] at hk
    cases hk
    exact new
  · rw [List.getElem?_set_ne e] at hso
    have z := r.at_ k b so' hk hso
    cases so' with
    | lst xs =>
      obtain ⟨us, hb, h1, h2⟩ := z
      obtain ⟨b1, b2⟩ := b
      have hb' : b2 = false := hb
      subst hb'
      have : b1 ≠ a := fun q => by
        subst q
        exact e (r.nd n k b1 hm hk)
      exact ⟨us, rfl, by rw [upd_ne this]; exact h1, h2.mono l⟩
    | dic xs =>
      obtain ⟨us, hb, h1, h2, h3⟩ := z
      obtain ⟨b1, b2⟩ := b
      have hb' : b2 = false := hb
      subst hb'
      have : b1 ≠ a := fun q => by
        subst q
        exact e (r.nd n k b1 hm hk)
      exact ⟨us, rfl, by rw [upd_ne this]; exact h1, h2, h3.mono l⟩
    | frz xs =>
      obtain ⟨us, h1, h2⟩ := z
      refine ⟨us, ?_, h2.mono l⟩
      rcases h1 with ⟨hb, o1, h1⟩ | h1
      · have : b.1 ≠ a := fun q => by
          rw [q, h] at h1
          cases h1
          exact ho
        exact .inl ⟨hb, o1, by rw [upd_ne this]; exact h1⟩
      · exact .inr h1
    | ins _ _ => exact z
theorem RelA.allocO (r : RelA K mg m H S) {p : Addr} {o : HO} {so : SO} (hp : H p = none) (new : RO K mg (m ++ [(p, false)]) (upd H p o) so (p, false)) : RelA K mg (m ++ [(p, false)]) (upd H p o) (S ++ [so]) := by
  have old : ∀ (n : Nat) (a : Addr × Bool), m[n]? = some a → n < S.length := fun n a h => by rw [← r.len]; exact (List.getElem?_eq_some_iff.mp h).1
  have cases_ : ∀ (n : Nat) (a : Addr × Bool), (m ++ [(p, false)])[n]? = some a → m[n]? = some a ∨ (n = m.length ∧ a = (p, false)) := fun n a h => by
    by_cases hn : n < m.length
    · rw [List.getElem?_append_left hn] at h
      exact .inl h
    · rw [List.getElem?_append_right (by omega)] at h
      have : n - m.length = 0 := by
        cases q : n - m.length with
        | zero => rfl
        | succ j => rw [q] at h; simp at h
      rw [this] at h
      exact .inr ⟨by omega, by simpa using h.symm⟩
  have hn0 := r.notin hp
  refine ⟨by rw [List.length_append, List.length_append, r.len]; rfl, fun n k a hn' hk => ?_, fun n a so' hn' hso => ?_⟩
  · rcases cases_ n _ hn' with h1 | ⟨h1, e1⟩
    · rcases cases_ k _ hk with h2 | ⟨h2, e2⟩
      · exact r.nd n k a h1 h2
      · cases e2
        exact absurd (List.mem_of_getElem? h1) hn0
    · rcases cases_ k _ hk with h2 | ⟨h2, _⟩
      · cases e1
        exact absurd (List.mem_of_getElem? h2) hn0
      · exact h1.trans h2.symm
  · rcases cases_ n a hn' with h1 | ⟨h1, e1⟩
    · rw [List.getElem?_append_left (old n a h1)] at hso
      exact (r.at_ n a so' h1 hso).new hp (Le.alloc hp)
    · subst e1
      rw [h1, r.len, List.getElem?_append_right (Nat.le_refl _)] at hso
      have : so' = so := by simpa using hso.symm
      subst this
      exact new
end
/-! ### what is wanted of a result -/
/-- an exception's class and payload -/
def exNames : List Str := ["CityError", "InvalidCity", "InvalidStreet", "InvalidStreets", "InvalidPoint", "InvalidDrive", "InvalidCount", "InvalidText", "NothingToUndo", "MissingDirection", "TooLarge"]
def RpX (mg : Str → Option Value) (c : Nat) (p : List D) (cls : Value) (dd : Option Addr) : Prop := ∃ x a, exNames[c]? = some x ∧ mg x = some (.ref a) ∧ cls = .ref a ∧ p = [] ∧ dd = none
def Post {α β : Type} (K : PySem.W.Frag) (mg : Str → Option Value) (W : XK) (rel : Mp → Hp → α → β → Prop) (m : Mp) (H : Hp) (r : R α) (Q : β → Hp → Prop) : Prop := match r with
  | .ok d S => ∀ m' H' v, Le m m' H H' → RelA K mg m' H' S → rel m' H' d v → Q v H'
  | .exc c p S => ∀ m' H' cls dd, Le m m' H H' → RelA K mg m' H' S → RpX mg c p cls dd → W cls dd H'
  | .bad => False
section
variable {K : PySem.W.Frag} {mg : Str → Option Value} {W : XK} {m m1 : Mp} {H H1 : Hp}
theorem Post.move {α β : Type} {rel : Mp → Hp → α → β → Prop} {r : R α} {Q : β → Hp → Prop} (l : Le m m1 H H1) (h : Post K mg W rel m H r Q) : Post K mg W rel m1 H1 r Q := by
  cases r with
  | ok d S => exact fun m' H' v l' ra rp => h m' H' v (l.trans l') ra rp
  | exc c p S => exact fun m' H' cls dd l' ra rx => h m' H' cls dd (l.trans l') ra rx
  | bad => exact h
theorem Post.bind {α β γ δ : Type} {rel : Mp → Hp → α → β → Prop} {rel1 : Mp → Hp → γ → δ → Prop} {r : R γ} {f : γ → Sto → R α} {Q : β → Hp → Prop} (h : Post K mg W rel m H (r.bind f) Q) :
    Post K mg W rel1 m H r (fun v H1 => ∃ m1 d S1, Le m m1 H H1 ∧ RelA K mg m1 H1 S1 ∧ rel1 m1 H1 d v ∧ Post K mg W rel m1 H1 (f d S1) Q) := by
  cases r with
  | ok d S => exact fun m' H' v l' ra rp => ⟨m', d, S, l', ra, rp, Post.move l' h⟩
  | exc c p S => exact h
  | bad => exact h
theorem Post.imp {α β : Type} {rel : Mp → Hp → α → β → Prop} {r : R α} {Q Q' : β → Hp → Prop} (h : Post K mg W rel m H r Q) (i : ∀ v H', Q v H' → Q' v H') : Post K mg W rel m H r Q' := by
  cases r with
  | ok d S => exact fun m' H' v l ra rp => i _ _ (h m' H' v l ra rp)
  | exc c p S => exact h
  | bad => exact h
/-- from what is already reached -/
theorem Post.now {α β : Type} {rel : Mp → Hp → α → β → Prop} {d : α} {S : Sto} {Q : β → Hp → Prop} (h : Post K mg W rel m H (.ok d S) Q) (ra : RelA K mg m H S) {v : β} (rp : rel m H d v) : Q v H := h m H v (Le.refl m H) ra rp
end
end CC

namespace CC
open PySem PySem.Spec PyProof.Rows L2

def bnames : List Str := ["len", "abs", "sum", "min", "max", "all", "any", "sorted", "repr", "int", "str", "list", "tuple", "set", "isinstance", "range", "zip", "enumerate", "bool", "dict"]
structure Ctx (X : Cx) : Prop where
  calm : X.calm = true
  hu : X.A.units + 100 < cLine
  nd : X.N.Nodup
  g : X.A.guards = some []
  nob : ∀ x ∈ bnames, X.mg x = none
/-! ### weaker readings -/
section
variable {X : Cx}
theorem PE_imp {e : Expr} {t t' : TE} (h : PE X e t) (i : ∀ σ H Q, t' σ H Q → t σ H Q) : PE X e t' := ⟨fun pins s σ H Q I q => h.run pins s σ H Q I (i σ H Q q)⟩
theorem PT_imp {e : Expr} {t t' : TT} (h : PT X e t) (i : ∀ σ H Q, t' σ H Q → t σ H Q) : PT X e t' := ⟨fun pins s σ H Q I q => h.run pins s σ H Q I (i σ H Q q)⟩
theorem PW_imp {e : Expr} {t t' : TT} (h : PW X e t) (i : ∀ σ H Q, t' σ H Q → t σ H Q) : PW X e t' := ⟨fun wh pins s σ H Q I q => h.run wh pins s σ H Q I (i σ H Q q)⟩
theorem PA_imp {e : List Expr} {t t' : TA} (h : PA X e t) (i : ∀ σ H Q, t' σ H Q → t σ H Q) : PA X e t' := ⟨fun pos pins s σ H Q I q => h.run pos pins s σ H Q I (i σ H Q q)⟩
theorem PK_imp {e : List Keyword} {t t' : TA} (h : PK X e t) (i : ∀ σ H Q, t' σ H Q → t σ H Q) : PK X e t' := ⟨fun pos pins s σ H Q I q => h.run pos pins s σ H Q I (i σ H Q q)⟩
theorem PO_imp {e : Option Expr} {t t' : TO} (h : PO X e t) (i : ∀ σ H Q, t' σ H Q → t σ H Q) : PO X e t' := ⟨fun pins s σ H Q I q => h.run pins s σ H Q I (i σ H Q q)⟩
theorem PI_imp {tg e : Expr} {t t' : TI} (h : PI X tg e t) (i : ∀ σ H Q, t' σ H Q → t σ H Q) : PI X tg e t' := ⟨fun pins s σ H Q I q => h.run pins s σ H Q I (i σ H Q q)⟩
theorem PS_imp {e : Stmt} {t t' : TS} (h : PS X e t) (i : ∀ D σ H, t' D σ H → t D σ H) : PS X e t' := ⟨fun pins s σ H D I q => h.run pins s σ H D I (i D σ H q)⟩
theorem PSs_imp {e : List Stmt} {t t' : TS} (h : PSs X e t) (i : ∀ D σ H, t' D σ H → t D σ H) : PSs X e t' := ⟨fun pins s σ H D I q => h.run pins s σ H D I (i D σ H q)⟩
theorem PE_never {e : Expr} {t : TE} (h : ∀ σ H Q, ¬ t σ H Q) : PE X e t := ⟨fun _ _ σ H Q _ q => (h σ H Q q).elim⟩
end
abbrev E00 : XK := fun _ _ _ => False
/-! ### plain data -/
section
variable {K : PySem.W.Frag} {mg : Str → Option Value} {m : Mp} {H : Hp} {S : Sto}
theorem toPs_dp (f : D → Option PyData) (hf : ∀ d v p, Rp K mg m H d v → f d = some p → Dp K H v p) : ∀ {ds : List D} {vs : List V} {ps : List PyData}, Rps K mg m H ds vs → ds.mapM f = some ps → DpAll K H vs ps
  | _, _, ps, .nil, e => by
    rw [List.mapM_nil] at e
    cases e
    exact .nil
  | d :: ds, v :: vs, ps, .cons h hs, e => by
    rw [List.mapM_cons] at e
    cases q : f d with
    | none => rw [q] at e; cases e
    | some p =>
      rw [q] at e
      cases q2 : ds.mapM f with
      | none => rw [q2] at e; cases e
      | some r =>
        rw [q2] at e
        cases e
        exact .cons (hf d v p h q) (toPs_dp f hf hs q2)
theorem toP_dp (ra : RelA K mg m H S) : ∀ (n : Nat) (d : D) (v : V) (p : PyData), Rp K mg m H d v → toP S n d = some p → Dp K H v p
  | n, _, _, p, .non, e => by cases n <;> (cases e; exact .non)
  | n, _, _, p, .bl b, e => by cases n <;> (cases e; exact .bl b)
  | n, _, _, p, .int i, e => by cases n <;> (cases e; exact .int i)
  | n, _, _, p, .str x, e => by cases n <;> (cases e; exact .str x)
  | n, _, _, p, .ty t, e => by cases n <;> cases e
  | n, _, _, p, .fn h, e => by cases n <;> cases e
  | 0, _, _, p, .tup h hs, e => by cases e
  | 0, _, _, p, .loc h, e => by cases e
  | n + 1, _, _, p, .tup (ds := ds) h hs, e => by
    unfold toP at e
    cases q : ds.mapM (toP S n) with
    | none => rw [q] at e; cases e
    | some ps =>
      rw [q] at e
      cases e
      exact .tup h.t (toPs_dp (toP S n) (fun d v p r z => toP_dp ra n d v p r z) hs q)
  | n + 1, _, _, p, .loc (n := k) h, e => by
    unfold toP at e
    cases q0 : lstAt S k with
    | none => rw [q0] at e; cases e
    | some ds =>
      rw [q0] at e
      obtain ⟨vs, h1, h2⟩ := ra.seq h q0
      cases q : ds.mapM (toP S n) with
      | none =>
        have e' : (ds.mapM (toP S n)).map PyData.list = some p := e
        rw [q] at e'; cases e'
      | some ps =>
        have e' : (ds.mapM (toP S n)).map PyData.list = some p := e
        rw [q] at e'
        cases e'
        exact .lst h1 (toPs_dp (toP S n) (fun d v p r z => toP_dp ra n d v p r z) h2 q)
theorem eqD_ok (ra : RelA K mg m H S) {d e : D} {x y : V} {b : Bool} (rx : Rp K mg m H d x) (ry : Rp K mg m H e y) (h : eqD d e S = some b) :
    ∃ p q, Dp K H x p ∧ Dp K H y q ∧ SeqAt.shaped p = true ∧ SeqAt.shaped q = true ∧ b = PyData.eqv p q := by
  unfold eqD at h
  cases h1 : toP S 50 d with
  | none => rw [h1] at h; cases h
  | some p =>
    rw [h1] at h
    cases h2 : toP S 50 e with
    | none => rw [h2] at h; cases h
    | some q =>
      rw [h2] at h
      have h' : (if SeqAt.shaped p && SeqAt.shaped q then some (PyData.eqv p q) else none) = some b := h
      by_cases c : (SeqAt.shaped p && SeqAt.shaped q) = true
      · rw [if_pos c] at h'
        cases h'
        obtain ⟨c1, c2⟩ := Bool.and_eq_true_iff.mp c
        exact ⟨p, q, toP_dp ra 50 d x p rx h1, toP_dp ra 50 e y q ry h2, c1, c2, rfl⟩
      · rw [if_neg c] at h'
        cases h'
theorem flat_v {d : D} {x : V} (r : Rp K mg m H d x) (h : flatD d = true) : flatV x = true := by
  cases r <;> first | rfl | cases h
theorem flats_v : ∀ {ds : List D} {vs : List V}, Rps K mg m H ds vs → ds.all flatD = true → vs.all flatV = true
  | _, _, .nil, _ => rfl
  | d :: ds, v :: vs, .cons h hs, e => by
    rw [List.all_cons, Bool.and_eq_true_iff] at e
    rw [List.all_cons, flat_v h e.1, flats_v hs e.2]
    rfl
theorem feq_v {d e : D} {x y : V} (r : Rp K mg m H d x) (q : Rp K mg m H e y) (h1 : flatD d = true) (h2 : flatD e = true) : eqV x y = feq d e := by
  cases r <;> first | (cases h1; done) | (cases q <;> first | (cases h2; done) | rfl)
theorem anyf_v {d : D} {x : V} (r : Rp K mg m H d x) (h1 : flatD d = true) : ∀ {ds : List D} {vs : List V}, Rps K mg m H ds vs → ds.all flatD = true → inV x vs = ds.any fun y => feq y d
  | _, _, .nil, _ => rfl
  | e :: ds, v :: vs, .cons h hs, q => by
    rw [List.all_cons, Bool.and_eq_true_iff] at q
    have ih := anyf_v r h1 hs q.2
    unfold inV at ih ⊢
    rw [List.any_cons, List.any_cons, ih, feq_v h r q.1 h1]
theorem isNon_v {d : D} {x : V} (r : Rp K mg m H d x) : decide (x = .non) = isNon d := by
  cases r <;> rfl
theorem tru_v (ra : RelA K mg m H S) {d : D} {x : V} {b : Bool} (r : Rp K mg m H d x) (h : truth d S = some b) : TruV K x H b := by
  cases r with
  | non => cases h; rfl
  | bl b => cases h; rfl
  | int i => cases h; rfl
  | str x => cases h
  | ty t => cases h
  | fn q => cases h
  | tup q hs =>
    cases h
    refine .inr (.inl ⟨_, q.t, ?_⟩)
    cases hs <;> rfl
  | loc q =>
    rename_i n a _
    have : ∃ ds, lstAt S n = some ds ∧ b = !ds.isEmpty := by
      unfold truth at h
      unfold lstAt
      cases z : S[n]? with
      | none => simp only [z] at h; cases h
      | some so =>
        simp only [z] at h ⊢
        cases so with
        | lst ds => cases h; exact ⟨ds, rfl, rfl⟩
        | frz ds => cases h; exact ⟨ds, rfl, rfl⟩
        | dic _ => cases h
        | ins _ _ => cases h
    obtain ⟨ds, h1, h2⟩ := this
    obtain ⟨vs, h3, h4⟩ := ra.seq q h1
    refine .inl ⟨vs, h3, ?_⟩
    rw [h2]
    cases h4 <;> rfl
end
/-! ### operators by values -/
section
variable {X : Cx}
def rB (K : PySem.W.Frag) (mg : Str → Option Value) (f : D → D → Sto → R D) : R2 := fun x y H Q => ∃ W m S d e, RelA K mg m H S ∧ Rp K mg m H d x ∧ Rp K mg m H e y ∧ Post K mg W (Rp K mg) m H (f d e S) Q
def rC (K : PySem.W.Frag) (mg : Str → Option Value) (f : D → D → Sto → Option Bool) : R2 := fun x y H Q => ∃ m S d e b, RelA K mg m H S ∧ Rp K mg m H d x ∧ Rp K mg m H e y ∧ f d e S = some b ∧ Q (.bl b) H
theorem post_mk {K : PySem.W.Frag} {mg : Str → Option Value} {W : XK} {m : Mp} {H : Hp} {S : Sto} {ds : List D} {vs : List V} {Q : VK} (ra : RelA K mg m H S) (hs : Rps K mg m H ds vs) (h : Post K mg W (Rp K mg) m H (mk (.lst ds) S) Q) :
    ∀ p, H p = none → Q (.ref p) (upd H p (.lst vs)) := fun p hp => h (m ++ [(p, false)]) (upd H p (.lst vs)) (.ref p) (Le.alloc hp) (ra.alloc hp hs) (.loc (ra.at_new p))
theorem post_tup {K : PySem.W.Frag} {mg : Str → Option Value} {W : XK} {m : Mp} {H : Hp} {S : Sto} {ds : List D} {vs : List V} {Q : VK} (ra : RelA K mg m H S) (hs : Rps K mg m H ds vs) (h : Post K mg W (Rp K mg) m H (.ok (.tup ds) S) Q) :
    ∀ p, H p = none → Q (.ref p) (upd H p (.tup vs)) := fun p hp => h m (upd H p (.tup vs)) (.ref p) (Le.new hp) (ra.new hp) (.tup (.inl upd_same) (hs.mono (Le.new hp)))
theorem op_add_any : OpR X (binaryOp .Add) (rB X.K X.mg (binD .Add)) := by
  intro pins s σ H x y v u Q I rx ry ⟨W, m, S, d, e, ra, rd, re, p⟩
  cases rd with
  | int i =>
    cases re with
    | int j => exact op_add pins s σ H _ _ v u Q I rx ry ⟨i, j, rfl, rfl, p.now ra (.int _)⟩
    | _ => exact p.elim
  | str a =>
    cases re with
    | str b =>
      have p' : Post X.K X.mg W (Rp X.K X.mg) m H (if a.length + b.length ≤ sizeLine then .ok (.str (a ++ b)) S else .bad) Q := p
      by_cases c : a.length + b.length ≤ sizeLine
      · rw [if_pos c] at p'
        exact op_add_str pins s σ H _ _ v u Q I rx ry ⟨a, b, rfl, rfl, c, p'.now ra (.str _)⟩
      · rw [if_neg c] at p'
        exact p'.elim
    | _ => exact p.elim
  | tup h hs =>
    rename_i a vs ds
    cases re with
    | tup h' hs' =>
      rename_i a' vs' ds'
      have p' : Post X.K X.mg W (Rp X.K X.mg) m H (if ds.length + ds'.length ≤ sizeLine then .ok (.tup (ds ++ ds')) S else .bad) Q := p
      by_cases c : ds.length + ds'.length ≤ sizeLine
      · rw [if_pos c] at p'
        refine op_catA pins s σ H _ _ v u Q I rx ry ⟨a, a', vs, vs', rfl, rfl, h.t, h'.t, by rw [hs.length, hs'.length]; exact c, fun z => ?_, fun z z' => ?_, fun _ _ => post_tup ra (hs.append hs') p'⟩
        · subst z
          cases hs
          exact p'.now ra (.tup h' hs')
        · subst z'
          cases hs'
          exact p'.now ra (by rw [List.append_nil]; exact .tup h hs)
      · rw [if_neg c] at p'
        exact p'.elim
    | _ => exact p.elim
  | loc h =>
    rename_i n a _
    cases re with
    | loc h' =>
      rename_i k a' _
      have p' : Post X.K X.mg W (Rp X.K X.mg) m H (match S[n]?, S[k]? with
        | some (.lst a), some (.lst b) => if a.length + b.length ≤ sizeLine then mk (.lst (a ++ b)) S else .bad
        | _, _ => .bad) Q := p
      cases q : S[n]? with
      | none => rw [q] at p'; exact p'.elim
      | some so =>
        cases q2 : S[k]? with
        | none => rw [q, q2] at p'; cases so <;> exact p'.elim
        | some so' =>
          rw [q, q2] at p'
          cases so with
          | lst ds =>
            cases so' with
            | lst es =>
              obtain ⟨vs, h1, h2⟩ := ra.lst h q
              obtain ⟨ws, h3, h4⟩ := ra.lst h' q2
              have p'' : Post X.K X.mg W (Rp X.K X.mg) m H (if ds.length + es.length ≤ sizeLine then mk (.lst (ds ++ es)) S else .bad) Q := p'
              by_cases c : ds.length + es.length ≤ sizeLine
              · rw [if_pos c] at p''
                exact op_cat pins s σ H _ _ v u Q I rx ry ⟨a, a', vs, ws, rfl, rfl, h1, h3, by rw [h2.length, h4.length]; exact c, post_mk ra (h2.append h4) p''⟩
              · rw [if_neg c] at p''
                exact p''.elim
            | _ => exact p'.elim
          | _ => cases so' <;> exact p'.elim
    | _ => exact p.elim
  | _ => cases re <;> exact p.elim
theorem op_sub_any : OpR X (binaryOp .Sub) (rB X.K X.mg (binD .Sub)) := by
  intro pins s σ H x y v u Q I rx ry ⟨W, m, S, d, e, ra, rd, re, p⟩
  cases rd with
  | int i =>
    cases re with
    | int j => exact op_sub pins s σ H _ _ v u Q I rx ry ⟨i, j, rfl, rfl, p.now ra (.int _)⟩
    | _ => exact p.elim
  | _ => cases re <;> exact p.elim
theorem op_mul_any : OpR X (binaryOp .Mult) (rB X.K X.mg (binD .Mult)) := by
  intro pins s σ H x y v u Q I rx ry ⟨W, m, S, d, e, ra, rd, re, p⟩
  cases rd with
  | int i =>
    cases re with
    | int j =>
      have p' : Post X.K X.mg W (Rp X.K X.mg) m H (if mulOk i j then .ok (.int (i * j)) S else .bad) Q := p
      by_cases c : mulOk i j = true
      · rw [if_pos c] at p'
        exact op_mulW pins s σ H _ _ v u Q I rx ry ⟨i, j, rfl, rfl, (of_decide_eq_true c : i.natAbs.log2 + j.natAbs.log2 < 1000000), p'.now ra (.int _)⟩
      · rw [if_neg c] at p'
        exact p'.elim
    | _ => exact p.elim
  | loc h =>
    rename_i n a _
    cases re with
    | int k =>
      have p' : Post X.K X.mg W (Rp X.K X.mg) m H (match S[n]? with
        | some (.lst a) => if decide (-(2 ^ 63) ≤ k) && decide (k < 2 ^ 63) && decide (a.length * k.toNat ≤ sizeLine) then mk (.lst (List.replicate k.toNat a).flatten) S else .bad
        | _ => .bad) Q := p
      cases q : S[n]? with
      | none => rw [q] at p'; exact p'.elim
      | some so =>
        rw [q] at p'
        cases so with
        | lst ds =>
          obtain ⟨vs, h1, h2⟩ := ra.lst h q
          have p'' : Post X.K X.mg W (Rp X.K X.mg) m H (if decide (-(2 ^ 63) ≤ k) && decide (k < 2 ^ 63) && decide (ds.length * k.toNat ≤ sizeLine) then mk (.lst (List.replicate k.toNat ds).flatten) S else .bad) Q := p'
          by_cases c : (decide (-(2 ^ 63) ≤ k) && decide (k < 2 ^ 63) && decide (ds.length * k.toNat ≤ sizeLine)) = true
          · rw [if_pos c] at p''
            rw [Bool.and_eq_true_iff, Bool.and_eq_true_iff] at c
            obtain ⟨⟨c1, c2⟩, c3⟩ := c
            exact op_rep pins s σ H _ _ v u Q I rx ry ⟨a, k, vs, rfl, rfl, h1, of_decide_eq_true c1, of_decide_eq_true c2, by rw [h2.length]; exact of_decide_eq_true c3, post_mk ra (h2.flatten _) p''⟩
          · rw [if_neg c] at p''
            exact p''.elim
        | _ => exact p'.elim
    | _ => exact p.elim
  | _ => cases re <;> exact p.elim
theorem op_fdiv_any : OpR X (binaryOp .FloorDiv) (rB X.K X.mg (binD .FloorDiv)) := by
  intro pins s σ H x y v u Q I rx ry ⟨W, m, S, d, e, ra, rd, re, p⟩
  cases rd with
  | int i =>
    cases re with
    | int j =>
      have p' : Post X.K X.mg W (Rp X.K X.mg) m H (if divOk j then .ok (.int (i / j)) S else .bad) Q := p
      by_cases c : divOk j = true
      · rw [if_pos c] at p'
        obtain ⟨c1, c2⟩ := Bool.and_eq_true_iff.mp c
        exact op_fdivW pins s σ H _ _ v u Q I rx ry ⟨i, j, rfl, rfl, ⟨of_decide_eq_true c1, of_decide_eq_true c2⟩, p'.now ra (.int _)⟩
      · rw [if_neg c] at p'
        exact p'.elim
    | _ => exact p.elim
  | _ => cases re <;> exact p.elim
theorem op_mod_any : OpR X (binaryOp .Mod) (rB X.K X.mg (binD .Mod)) := by
  intro pins s σ H x y v u Q I rx ry ⟨W, m, S, d, e, ra, rd, re, p⟩
  cases rd with
  | int i =>
    cases re with
    | int j =>
      have p' : Post X.K X.mg W (Rp X.K X.mg) m H (if decide (0 < j) then .ok (.int (i % j)) S else .bad) Q := p
      by_cases c : decide (0 < j) = true
      · rw [if_pos c] at p'
        exact op_mod pins s σ H _ _ v u Q I rx ry ⟨i, j, rfl, rfl, of_decide_eq_true c, p'.now ra (.int _)⟩
      · rw [if_neg c] at p'
        exact p'.elim
    | _ => exact p.elim
  | _ => cases re <;> exact p.elim
theorem bits_le {i : Int} (h : i.natAbs.log2 < 1000) : Builtin.Int.intBits i ≤ 1000 := by
  unfold Builtin.Int.intBits
  split <;> omega
theorem pow_big {i j : Int} (h0 : 0 ≤ j) (h1 : j ≤ 1000) (h : i.natAbs.log2 < 1000) : ¬ Builtin.Int.intTooBig (((Builtin.Int.intBits i : Nat) : Int) * j) = true := by
  have hb := bits_le h
  unfold Builtin.Int.intTooBig
  intro z
  have z' := of_decide_eq_true z
  have b1 : ((Builtin.Int.intBits i : Nat) : Int) * j ≤ 1000 * 1000 := Int.mul_le_mul (by omega) h1 h0 (by omega)
  have b2 : (1000000 : Int) < ((bitsLine : Nat) : Int) := by decide +kernel
  omega
theorem pow_neg1n (n : Nat) : (-1 : Int) ^ n = if n % 2 = 0 then 1 else -1 := by
  have h2 : ((-1 : Int)) ^ (2 : Nat) = 1 := by decide
  by_cases z : n % 2 = 0
  · rw [if_pos z]
    have : n = 2 * (n / 2) := by omega
    rw [this, Int.pow_mul, h2, Int.one_pow]
  · rw [if_neg z]
    have : n = 2 * (n / 2) + 1 := by omega
    rw [this, Int.pow_succ, Int.pow_mul, h2, Int.one_pow]
    rfl
theorem pow_neg1 {j : Int} (h : 0 ≤ j) : (-1 : Int) ^ j.toNat = if (j % 2 == 0) = true then 1 else -1 := by
  rw [pow_neg1n]
  by_cases z : j % 2 = 0
  · rw [if_pos (by omega), if_pos (by rw [z]; rfl)]
  · rw [if_neg (by omega), if_neg (fun q => z (eq_of_beq q))]
theorem op_pow_any : OpR X (binaryOp .Pow) (rB X.K X.mg (binD .Pow)) := by
  intro pins s σ H x y v u Q I rx ry ⟨W, m, S, d, e, ra, rd, re, p⟩
  cases rd with
  | int i =>
    cases re with
    | int j =>
      have p' : Post X.K X.mg W (Rp X.K X.mg) m H (if powOk i j then .ok (.int (i ^ j.toNat)) S else .bad) Q := p
      by_cases c : powOk i j = true
      · rw [if_pos c] at p'
        obtain ⟨c', c3⟩ := Bool.and_eq_true_iff.mp c
        obtain ⟨c1, c2⟩ := Bool.and_eq_true_iff.mp c'
        have h0 : 0 ≤ j := of_decide_eq_true c1
        have h1 : j ≤ 1000 := of_decide_eq_true c2
        have h2 : i.natAbs.log2 < 1000 := of_decide_eq_true c3
        obtain ⟨t, rfl⟩ := rx
        obtain ⟨t', rfl⟩ := ry
        have q := p'.now ra (.int _)
        by_cases e0 : j = 0
        · subst e0
          have q1 : Q (.int 1) H := by
            have e9 : i ^ (0 : Int).toNat = 1 := Int.pow_zero i
            rw [e9] at q
            exact q
          exact AutoIntOps.pow_0 (by decide) (by decide) ⟨.int 1, H, I.tok _, ⟨_, rfl⟩, q1⟩
        · have e0' : ¬ (j == 0) = true := fun z => e0 (eq_of_beq z)
          by_cases e1 : (i == 0 || i == 1) = true
          · refine AutoIntOps.pow_1 h0 e0' e1 ⟨.int i, H, I.tok _, ⟨_, rfl⟩, ?_⟩
            have : i ^ j.toNat = i := by
              rcases Bool.or_eq_true_iff.mp e1 with z | z
              · rw [eq_of_beq z]
                exact Int.zero_pow (by omega)
              · rw [eq_of_beq z]
                exact Int.one_pow
            rw [this] at q
            exact q
          · by_cases e2 : (i == -1) = true
            · refine AutoIntOps.pow_2 h0 e0' e1 e2 ⟨.int _, H, I.tok _, ⟨_, rfl⟩, ?_⟩
              have : i ^ j.toNat = if (j % 2 == 0) = true then 1 else -1 := by
                rw [eq_of_beq e2]
                exact pow_neg1 h0
              rw [this] at q
              exact q
            · exact AutoIntOps.pow_4 h0 e0' e1 e2 (pow_big h0 h1 h2) ⟨.int _, H, I.tok _, ⟨_, rfl⟩, q⟩
      · rw [if_neg c] at p'
        exact p'.elim
    | _ => exact p.elim
  | _ => cases re <;> exact p.elim
theorem op_bin : ∀ op : Operator, OpR X (binaryOp op) (rB X.K X.mg (binD op))
  | .Add => op_add_any
  | .Sub => op_sub_any
  | .Mult => op_mul_any
  | .FloorDiv => op_fdiv_any
  | .Mod => op_mod_any
  | .Pow => op_pow_any
  | .MatMult | .Div | .LShift | .RShift | .BitOr | .BitXor | .BitAnd => fun _ _ _ _ _ _ _ _ _ _ _ _ ⟨_, _, _, _, _, _, _, _, p⟩ => p.elim
theorem op_aug : ∀ op : Operator, OpR X (inplaceOp op) (rB X.K X.mg (augD op))
  | .Add => by
    intro pins s σ H x y v u Q I rx ry ⟨W, m, S, d, e, ra, rd, re, p⟩
    cases rd with
    | int i =>
      cases re with
      | int j => exact iop_add pins s σ H _ _ v u Q I rx ry ⟨i, j, rfl, rfl, p.now ra (.int _)⟩
      | _ => exact p.elim
    | str a =>
      cases re with
      | str b =>
        have p' : Post X.K X.mg W (Rp X.K X.mg) m H (if a.length + b.length ≤ sizeLine then .ok (.str (a ++ b)) S else .bad) Q := p
        by_cases c : a.length + b.length ≤ sizeLine
        · rw [if_pos c] at p'
          exact iop_add_str pins s σ H _ _ v u Q I rx ry ⟨a, b, rfl, rfl, c, p'.now ra (.str _)⟩
        · rw [if_neg c] at p'
          exact p'.elim
      | _ => exact p.elim
    | loc h =>
      rename_i n a _
      cases re with
      | loc h' =>
        rename_i k a' _
        have p' : Post X.K X.mg W (Rp X.K X.mg) m H (match S[n]?, S[k]? with
          | some (.lst a), some (.lst b) => if a.length + b.length ≤ sizeLine then .ok (.loc n) (S.set n (.lst (a ++ b))) else .bad
          | _, _ => .bad) Q := p
        cases q : S[n]? with
        | none => rw [q] at p'; exact p'.elim
        | some so =>
          cases q2 : S[k]? with
          | none => rw [q, q2] at p'; cases so <;> exact p'.elim
          | some so' =>
            rw [q, q2] at p'
            cases so with
            | lst ds =>
              cases so' with
              | lst es =>
                obtain ⟨vs, h1, h2⟩ := ra.lst h q
                obtain ⟨ws, h3, h4⟩ := ra.lst h' q2
                have p'' : Post X.K X.mg W (Rp X.K X.mg) m H (if ds.length + es.length ≤ sizeLine then .ok (.loc n) (S.set n (.lst (ds ++ es))) else .bad) Q := p'
                by_cases c : ds.length + es.length ≤ sizeLine
                · rw [if_pos c] at p''
                  exact iop_ext pins s σ H _ _ v u Q I rx ry ⟨a, a', vs, ws, rfl, rfl, h1, h3, by rw [h2.length, h4.length]; exact c,
                    p'' m _ (.ref a) (Le.write ra h q h1) (ra.write h q h1 (h2.append h4)) (.loc h)⟩
                · rw [if_neg c] at p''
                  exact p''.elim
              | _ => exact p'.elim
            | _ => cases so' <;> exact p'.elim
      | _ => exact p.elim
    | _ => cases re <;> exact p.elim
  | .Sub => by
    intro pins s σ H x y v u Q I rx ry ⟨W, m, S, d, e, ra, rd, re, p⟩
    cases rd with
    | int i =>
      cases re with
      | int j => exact iop_sub pins s σ H _ _ v u Q I rx ry ⟨i, j, rfl, rfl, p.now ra (.int _)⟩
      | _ => exact p.elim
    | _ => cases re <;> exact p.elim
  | .Mult => by
    intro pins s σ H x y v u Q I rx ry ⟨W, m, S, d, e, ra, rd, re, p⟩
    cases rd with
    | int i =>
      cases re with
      | int j =>
        have p' : Post X.K X.mg W (Rp X.K X.mg) m H (if decide (-(2 ^ 64) < j) && decide (j < 2 ^ 64) then .ok (.int (i * j)) S else .bad) Q := p
        by_cases c : (decide (-(2 ^ 64) < j) && decide (j < 2 ^ 64)) = true
        · rw [if_pos c] at p'
          obtain ⟨c1, c2⟩ := Bool.and_eq_true_iff.mp c
          exact iop_mul pins s σ H _ _ v u Q I rx ry ⟨i, j, rfl, rfl, .inr ⟨of_decide_eq_true c1, of_decide_eq_true c2⟩, p'.now ra (.int _)⟩
        · rw [if_neg c] at p'
          exact p'.elim
      | _ => exact p.elim
    | _ => cases re <;> exact p.elim
  | .FloorDiv | .Mod | .Pow | .MatMult | .Div | .LShift | .RShift | .BitOr | .BitXor | .BitAnd => fun _ _ _ _ _ _ _ _ _ _ _ _ ⟨_, _, _, _, _, _, _, _, p⟩ => p.elim
/-! comparisons -/
theorem cmp_some {b : Bool} {o : Option Bool} (h : o.map (!·) = some b) : ∃ c, o = some c ∧ b = !c := by
  cases o with
  | none => cases h
  | some c => cases h; exact ⟨c, rfl, rfl⟩
section
variable {K : PySem.W.Frag} {mg : Str → Option Value} {m : Mp} {H : Hp} {S : Sto}
theorem dic_ro (ra : RelA K mg m H S) {n : Nat} {a : Addr} {b : Bool} {kvs : List (Key × D)} (t : m[n]? = some (a, b)) (h : dicAt S n = some kvs) : b = false ∧ S[n]? = some (.dic kvs) ∧ ∃ ks, H a = some (.dK ks) ∧ Kvs K mg m H kvs ks := by
  unfold dicAt at h
  cases q : S[n]? with
  | none => rw [q] at h; cases h
  | some so =>
    rw [q] at h
    cases so with
    | dic _ =>
      cases h
      obtain ⟨ks, hb, h1, h2⟩ := ra.at_ n (a, b) _ t q
      exact ⟨hb, rfl, ks, h1, h2⟩
    | _ => cases h
theorem kvs_val : ∀ {kvs : List (Key × D)} {ks : List (Key × V)}, Kvs K mg m H kvs ks → ∀ k, (∀ d, valA kvs k = some d → ∃ v, valV ks k = some v ∧ Rp K mg m H d v) ∧ (valA kvs k = none → valV ks k = none)
  | [], [], _, k => ⟨(fun d e => by cases e), fun _ => rfl⟩
  | [], _ :: _, ⟨e, _⟩, _ => by cases e
  | _ :: _, [], ⟨e, _⟩, _ => by cases e
  | p :: kvs, q :: ks, ⟨e, r⟩, k => by
    have e' : p.1 :: kvs.map (·.1) = q.1 :: ks.map (·.1) := e
    obtain ⟨e1, e2⟩ := List.cons.inj e'
    have r' : Rps K mg m H (p.2 :: kvs.map (·.2)) (q.2 :: ks.map (·.2)) := r
    cases r' with
    | cons r1 r2 =>
      obtain ⟨h1, h2⟩ := kvs_val (kvs := kvs) (ks := ks) ⟨e2, r2⟩ k
      by_cases c : p.1 = k
      · have c' : q.1 = k := e1.symm.trans c
        have v1 : valA (p :: kvs) k = some p.2 := by
          unfold valA
          rw [List.find?_cons_of_pos (by simpa using c)]
          rfl
        exact ⟨(fun d ed => by rw [v1] at ed; cases ed; exact ⟨q.2, valV_pos c', r1⟩), (fun z => by rw [v1] at z; cases z)⟩
      · have c' : ¬ q.1 = k := fun z => c (e1.trans z)
        have v1 : valA (p :: kvs) k = valA kvs k := by
          unfold valA
          rw [List.find?_cons_of_neg (by simpa using c)]
        rw [v1, valV_neg c']
        exact ⟨h1, h2⟩
theorem kvs_any : ∀ {kvs : List (Key × D)} {ks : List (Key × V)}, kvs.map (·.1) = ks.map (·.1) → ∀ k : Key, (kvs.any fun kv => decide (kv.1 = k)) = ks.any fun kv => decide (kv.1 = k)
  | [], [], _, _ => rfl
  | [], _ :: _, e, _ => by cases e
  | _ :: _, [], e, _ => by cases e
  | p :: kvs, q :: ks, e, k => by
    have e' : p.1 :: kvs.map (·.1) = q.1 :: ks.map (·.1) := e
    obtain ⟨e1, e2⟩ := List.cons.inj e'
    rw [List.any_cons, List.any_cons, kvs_any e2 k, e1]
theorem kvs_repl {k : Key} {d : D} {v : V} (hv : Rp K mg m H d v) : ∀ {kvs : List (Key × D)} {ks : List (Key × V)}, Kvs K mg m H kvs ks → Kvs K mg m H (kvs.map fun kv => if kv.1 = k then (kv.1, d) else kv) (ks.map fun kv => if kv.1 = k then (kv.1, v) else kv)
  | [], [], _ => ⟨rfl, .nil⟩
  | [], _ :: _, ⟨e, _⟩ => by cases e
  | _ :: _, [], ⟨e, _⟩ => by cases e
  | p :: kvs, q :: ks, ⟨e, r⟩ => by
    have e' : p.1 :: kvs.map (·.1) = q.1 :: ks.map (·.1) := e
    obtain ⟨e1, e2⟩ := List.cons.inj e'
    have r' : Rps K mg m H (p.2 :: kvs.map (·.2)) (q.2 :: ks.map (·.2)) := r
    cases r' with
    | cons r1 r2 =>
      obtain ⟨h1, h2⟩ := kvs_repl hv (kvs := kvs) (ks := ks) ⟨e2, r2⟩
      by_cases c : p.1 = k
      · have c' : q.1 = k := e1.symm.trans c
        simp only [List.map_cons, if_pos c, if_pos c']
        refine ⟨?_, .cons hv h2⟩
        show p.1 :: _ = q.1 :: _
        rw [h1, e1]
      · have c' : ¬ q.1 = k := fun z => c (e1.trans z)
        simp only [List.map_cons, if_neg c, if_neg c']
        refine ⟨?_, .cons r1 h2⟩
        show p.1 :: _ = q.1 :: _
        rw [h1, e1]
theorem kvs_put {kvs : List (Key × D)} {ks : List (Key × V)} {k : Key} {d : D} {v : V} (h : Kvs K mg m H kvs ks) (hv : Rp K mg m H d v) : Kvs K mg m H (putA kvs k d) (putK ks k v) := by
  unfold putA putK
  rw [kvs_any h.1 k]
  by_cases c : (ks.any fun kv => decide (kv.1 = k)) = true
  · rw [if_pos c, if_pos c]
    exact kvs_repl hv h
  · rw [if_neg c, if_neg c]
    exact ⟨by simp only [List.map_append, h.1, List.map_cons, List.map_nil], by simp only [List.map_append, List.map_cons, List.map_nil]; exact h.2.append (.cons hv .nil)⟩
theorem kvs_mono {m' : Mp} {H' : Hp} {kvs : List (Key × D)} {ks : List (Key × V)} (h : Kvs K mg m H kvs ks) (l : Le m m' H H') : Kvs K mg m' H' kvs ks := ⟨h.1, h.2.mono l⟩
theorem kvs_len {kvs : List (Key × D)} {ks : List (Key × V)} (h : Kvs K mg m H kvs ks) : kvs.length = ks.length := by
  have := congrArg List.length h.1
  simpa using this
theorem kD_v {d : D} {k : Key} {x : V} (h : kD d = some k) (r : Rp K mg m H d x) : x = kV k := by
  cases r <;> first | (cases h; done) | (cases h; rfl)
end
theorem op_in_any (c : Ctx X) : OpR X (compareOp .In) (rC X.K X.mg inD) := by
  intro pins s σ H x y v u Q I rx ry ⟨m, S, d, e, b, ra, rd, re, h, q⟩
  cases re with
  | tup z hs =>
    rename_i a vs ds
    have h' : inSeq d ds = some b := h
    unfold inSeq at h'
    by_cases cc : (flatD d && ds.all flatD) = true
    · rw [if_pos cc] at h'
      obtain ⟨c1, c2⟩ := Bool.and_eq_true_iff.mp cc
      cases h'
      exact op_in_seq pins s σ H _ _ v u Q I rx ry ⟨a, vs, rfl, .inr z.t, flat_v rd c1, flats_v hs c2, by rw [if_neg (by decide), anyf_v rd c1 hs c2]; exact q⟩
    · rw [if_neg cc] at h'
      cases h'
  | loc z =>
    rename_i n a _
    have h0 : (match dicAt S n with
      | some kvs => (kD d).map fun k => (valA kvs k).isSome
      | none => inDeep d n S) = some b := h
    cases hdc : dicAt S n with
    | some kvs =>
      rw [hdc] at h0
      have h1 : ((kD d).map fun k => (valA kvs k).isSome) = some b := h0
      cases hk : kD d with
      | none => rw [hk] at h1; cases h1
      | some k =>
        rw [hk] at h1
        cases h1
        obtain ⟨_, _, ks, g1, g2⟩ := dic_ro ra z hdc
        have ex := kD_v hk rd
        subst ex
        have ev : v = v := rfl
        obtain rfl : u = Value.ref a := ry
        have e : (valV ks k).isSome = (valA kvs k).isSome := by
          obtain ⟨t1, t2⟩ := kvs_val g2 k
          cases hv : valA kvs k with
          | none =>
            rw [t2 hv]
            rfl
          | some dd =>
            obtain ⟨w, hw, _⟩ := t1 dd hv
            rw [hw]
            rfl
        refine d_in (by have := c.hu; omega) I (DGet.k g1) rx fun s' I' => ⟨.bl (valV ks k).isSome, H, I', rfl, ?_⟩
        rw [e]
        exact q
    | none =>
    rw [hdc] at h0
    have h' : inDeep d n S = some b := h0
    unfold inDeep at h'
    cases h1 : toP S 50 d with
    | none => rw [h1] at h'; cases h'
    | some p =>
      rw [h1] at h'
      cases h2 : toP S 50 (.loc n) with
      | none => rw [h2] at h'; cases h'
      | some r =>
        rw [h2] at h'
        cases r with
        | list ds =>
          have h'' : (if SeqAt.shaped p && SeqAt.shaped (.list ds) then some (ds.any fun z => PyData.eqv z p) else none) = some b := h'
          by_cases cc : (SeqAt.shaped p && SeqAt.shaped (.list ds)) = true
          · rw [if_pos cc] at h''
            obtain ⟨c1, c2⟩ := Bool.and_eq_true_iff.mp cc
            cases h''
            exact op_inD (by have := c.hu; omega) pins s σ H _ _ v u Q I rx ry ⟨p, ds, toP_dp ra 50 _ _ _ rd h1, toP_dp ra 50 _ _ _ (.loc z) h2, c1, c2, q⟩
          · rw [if_neg cc] at h''
            cases h''
        | _ => cases h'
  | str z =>
    cases rd with
    | str w => exact op_in_str pins s σ H _ _ v u Q I rx ry ⟨w, z, rfl, rfl, by cases h; exact q⟩
    | _ => cases h
  | _ => cases h
theorem op_notin_any (c : Ctx X) : OpR X (compareOp .NotIn) (rC X.K X.mg fun x y S => (inD x y S).map (!·)) := by
  intro pins s σ H x y v u Q I rx ry ⟨m, S, d, e, b, ra, rd, re, hh, q⟩
  obtain ⟨b', h, rfl⟩ := cmp_some hh
  cases re with
  | tup z hs =>
    rename_i a vs ds
    have h' : inSeq d ds = some b' := h
    unfold inSeq at h'
    by_cases cc : (flatD d && ds.all flatD) = true
    · rw [if_pos cc] at h'
      obtain ⟨c1, c2⟩ := Bool.and_eq_true_iff.mp cc
      cases h'
      exact op_notIn_seq pins s σ H _ _ v u Q I rx ry ⟨a, vs, rfl, .inr z.t, flat_v rd c1, flats_v hs c2, by rw [if_pos rfl, anyf_v rd c1 hs c2]; exact q⟩
    · rw [if_neg cc] at h'
      cases h'
  | loc z =>
    rename_i n a _
    have h0 : (match dicAt S n with
      | some kvs => (kD d).map fun k => (valA kvs k).isSome
      | none => inDeep d n S) = some b' := h
    cases hdc : dicAt S n with
    | some kvs =>
      rw [hdc] at h0
      have h1 : ((kD d).map fun k => (valA kvs k).isSome) = some b' := h0
      cases hk : kD d with
      | none => rw [hk] at h1; cases h1
      | some k =>
        rw [hk] at h1
        cases h1
        obtain ⟨_, _, ks, g1, g2⟩ := dic_ro ra z hdc
        have ex := kD_v hk rd
        subst ex
        have ev : v = v := rfl
        obtain rfl : u = Value.ref a := ry
        have e : (valV ks k).isSome = (valA kvs k).isSome := by
          obtain ⟨t1, t2⟩ := kvs_val g2 k
          cases hv : valA kvs k with
          | none =>
            rw [t2 hv]
            rfl
          | some dd =>
            obtain ⟨w, hw, _⟩ := t1 dd hv
            rw [hw]
            rfl
        refine d_notIn (by have := c.hu; omega) I (DGet.k g1) rx fun s' I' => ⟨.bl (!(valV ks k).isSome), H, I', rfl, ?_⟩
        rw [e]
        exact q
    | none =>
    rw [hdc] at h0
    have h' : inDeep d n S = some b' := h0
    unfold inDeep at h'
    cases h1 : toP S 50 d with
    | none => rw [h1] at h'; cases h'
    | some p =>
      rw [h1] at h'
      cases h2 : toP S 50 (.loc n) with
      | none => rw [h2] at h'; cases h'
      | some r =>
        rw [h2] at h'
        cases r with
        | list ds =>
          have h'' : (if SeqAt.shaped p && SeqAt.shaped (.list ds) then some (ds.any fun z => PyData.eqv z p) else none) = some b' := h'
          by_cases cc : (SeqAt.shaped p && SeqAt.shaped (.list ds)) = true
          · rw [if_pos cc] at h''
            obtain ⟨c1, c2⟩ := Bool.and_eq_true_iff.mp cc
            cases h''
            exact op_notInD (by have := c.hu; omega) pins s σ H _ _ v u Q I rx ry ⟨p, ds, toP_dp ra 50 _ _ _ rd h1, toP_dp ra 50 _ _ _ (.loc z) h2, c1, c2, q⟩
          · rw [if_neg cc] at h''
            cases h''
        | _ => cases h'
  | str z =>
    cases rd with
    | str w => exact op_notin_str pins s σ H _ _ v u Q I rx ry ⟨w, z, rfl, rfl, by cases h; exact q⟩
    | _ => cases h
  | _ => cases h
theorem qEq_cases {x y : D} {S : Sto} {b : Bool} (h : qEq x y S = some b) : (∃ i j, x = .int i ∧ y = .int j ∧ b = (i == j)) ∨ (∃ i j, x = .str i ∧ y = .str j ∧ b = (i == j)) ∨ eqD x y S = some b := by
  unfold qEq at h
  split at h
  · cases h
    exact .inl ⟨_, _, rfl, rfl, rfl⟩
  · cases h
    exact .inr (.inl ⟨_, _, rfl, rfl, rfl⟩)
  · exact .inr (.inr h)
theorem decStr {i j : Str} : decide (V.str i = V.str j) = (i == j) := by
  rw [Bool.eq_iff_iff]
  simp
theorem op_cmp (c : Ctx X) : ∀ op : CmpOp, OpR X (compareOp op) (rC X.K X.mg (cmpD op))
  | .Eq => fun pins s σ H x y v u Q I rx ry ⟨m, S, d, e, b, ra, rd, re, h, q⟩ => by
    rcases qEq_cases h with ⟨i, j, rfl, rfl, rfl⟩ | ⟨i, j, rfl, rfl, rfl⟩ | h
    · cases rd
      cases re
      exact op_eq pins s σ H _ _ v u Q I rx ry ⟨rfl, by rw [dec_int]; exact q⟩
    · cases rd
      cases re
      exact op_eq pins s σ H _ _ v u Q I rx ry ⟨rfl, by rw [decStr]; exact q⟩
    · obtain ⟨p, r, h1, h2, h3, h4, rfl⟩ := eqD_ok ra rd re h
      exact op_eqD (by have := c.hu; omega) pins s σ H _ _ v u Q I rx ry ⟨p, r, h1, h2, h3, h4, q⟩
  | .NotEq => fun pins s σ H x y v u Q I rx ry ⟨m, S, d, e, b, ra, rd, re, hh, q⟩ => by
    obtain ⟨b', h, rfl⟩ := cmp_some hh
    rcases qEq_cases h with ⟨i, j, rfl, rfl, rfl⟩ | ⟨i, j, rfl, rfl, rfl⟩ | h
    · cases rd
      cases re
      exact op_ne pins s σ H _ _ v u Q I rx ry ⟨rfl, by rw [dec_int]; exact q⟩
    · cases rd
      cases re
      exact op_ne pins s σ H _ _ v u Q I rx ry ⟨rfl, by rw [decStr]; exact q⟩
    · obtain ⟨p, r, h1, h2, h3, h4, rfl⟩ := eqD_ok ra rd re h
      exact op_neD (by have := c.hu; omega) pins s σ H _ _ v u Q I rx ry ⟨p, r, h1, h2, h3, h4, q⟩
  | .Lt => fun pins s σ H x y v u Q I rx ry ⟨m, S, d, e, b, ra, rd, re, h, q⟩ => by
    cases rd <;> cases re <;> first | (cases h; done) | exact op_lt pins s σ H _ _ v u Q I rx ry ⟨_, _, rfl, rfl, by cases h; exact q⟩
  | .LtE => fun pins s σ H x y v u Q I rx ry ⟨m, S, d, e, b, ra, rd, re, h, q⟩ => by
    cases rd <;> cases re <;> first | (cases h; done) | exact op_le pins s σ H _ _ v u Q I rx ry ⟨_, _, rfl, rfl, by cases h; exact q⟩
  | .Gt => fun pins s σ H x y v u Q I rx ry ⟨m, S, d, e, b, ra, rd, re, h, q⟩ => by
    cases rd <;> cases re <;> first | (cases h; done) | exact op_gt pins s σ H _ _ v u Q I rx ry ⟨_, _, rfl, rfl, by cases h; exact q⟩
  | .GtE => fun pins s σ H x y v u Q I rx ry ⟨m, S, d, e, b, ra, rd, re, h, q⟩ => by
    cases rd <;> cases re <;> first | (cases h; done) | exact op_ge pins s σ H _ _ v u Q I rx ry ⟨_, _, rfl, rfl, by cases h; exact q⟩
  | .In => op_in_any c
  | .NotIn => op_notin_any c
  | .Is => fun pins s σ H x y v u Q I rx ry ⟨m, S, d, e, b, ra, rd, re, h, q⟩ => by
    cases re <;> first | (cases h; done) | exact op_isN pins s σ H _ _ v u Q I rx ry ⟨rfl, by rw [isNon_v rd]; cases h; exact q⟩
  | .IsNot => fun pins s σ H x y v u Q I rx ry ⟨m, S, d, e, b, ra, rd, re, h, q⟩ => by
    cases re <;> first | (cases h; done) | exact op_notN pins s σ H _ _ v u Q I rx ry ⟨rfl, by rw [isNon_v rd]; cases h; exact q⟩
/-! subscripts, slices -/
def rIx' (K : PySem.W.Frag) (mg : Str → Option Value) : R2 := fun x y H Q => ∃ m S d e z, RelA K mg m H S ∧ Rp K mg m H d x ∧ Rp K mg m H e y ∧ ixD d e S = some z ∧ ∀ v, Rp K mg m H z v → Q v H
theorem ix_any (c : Ctx X) : IxR X (rIx' X.K X.mg) := by
  intro value slice pins s σ H x y v u Q I rx ry ⟨m, S, d, e, z, ra, rd, re, h, q⟩ hs
  cases rd with
  | tup t hv =>
    cases re with
    | int i =>
      obtain ⟨w, h1, h2⟩ := hv.atI h
      exact ix_tup value slice pins s σ H _ _ v u Q I rx ry ⟨_, _, i, w, rfl, rfl, t.t, h1, q w h2⟩ hs
    | _ => cases h
  | loc t =>
    rename_i n a _
    have h' : ixL (lstAt S n) (dicAt S n) e = some z := h
    cases hl : lstAt S n with
    | some ds =>
      rw [hl] at h'
      cases re with
      | int i =>
        have h2' : atI ds i = some z := h'
        obtain ⟨vs, h3, h4⟩ := ra.seq t hl
        obtain ⟨w, h1, h2⟩ := h4.atI h2'
        exact ix_list value slice pins s σ H _ _ v u Q I rx ry ⟨_, _, i, w, rfl, rfl, h3, h1, q w h2⟩ hs
      | _ => cases h'
    | none =>
      rw [hl] at h'
      have h2' : ((dicAt S n).bind fun kvs => (kD e).bind fun k => valA kvs k) = some z := h'
      cases hdc : dicAt S n with
      | none => rw [hdc] at h2'; cases h2'
      | some kvs =>
        rw [hdc] at h2'
        have h3' : ((kD e).bind fun k => valA kvs k) = some z := h2'
        cases hk : kD e with
        | none => rw [hk] at h3'; cases h3'
        | some k =>
          rw [hk] at h3'
          have h4' : valA kvs k = some z := h3'
          obtain ⟨_, _, ks, g1, g2⟩ := dic_ro ra t hdc
          obtain ⟨w, hw, rw'⟩ := (kvs_val g2 k).1 z h4'
          have ey := kD_v hk re
          subst ey
          obtain rfl : v = Value.ref a := rx
          have g : DGet H a (kV k) (some w) := hw ▸ DGet.k g1
          exact tail_any (dict_typeIs I g) slot_dict_getitem.lookup (d_getItem (by have := c.hu; omega) I g ry fun w' s' I' r' => ⟨w, H, I', r', q w rw'⟩) hs
  | str t =>
    cases re with
    | int i =>
      have h' : (if t.length ≤ sizeLine then (atI t.cps.toList i).map fun c => D.str ⟨#[c]⟩ else none) = some z := h
      by_cases c : t.length ≤ sizeLine
      · rw [if_pos c] at h'
        cases hc : atI t.cps.toList i with
        | none => rw [hc] at h'; cases h'
        | some k =>
          rw [hc] at h'
          cases h'
          exact ix_str value slice pins s σ H _ _ v u Q I rx ry ⟨t, i, k, rfl, rfl, c, hc, q _ (.str _)⟩ hs
      · rw [if_neg c] at h'
        cases h'
    | _ => cases h
  | _ => cases h
def rSl' (K : PySem.W.Frag) (mg : Str → Option Value) : V → Option Int → Option Int → Hp → VK → Prop := fun x lo hi H Q => ∃ W m S d, RelA K mg m H S ∧ Rp K mg m H d x ∧ Post K mg W (Rp K mg) m H (slD d lo hi S) Q
theorem sl_any : SlR X (rSl' X.K X.mg) := by
  intro pins s σ H x v vl vu lo hi sl Q I rx hsl pl pu ⟨W, m, S, d, ra, rd, p⟩
  cases rd with
  | tup t hv =>
    rename_i a vs ds
    have p' : Post X.K X.mg W (Rp X.K X.mg) m H (.ok (.tup (cut ds lo hi)) S) Q := p
    refine sl_tupA pins s σ H _ v vl vu lo hi sl Q I rx hsl pl pu ⟨a, vs, rfl, t.t, fun ⟨z1, z2⟩ => ?_, fun _ => post_tup ra (hv.cut lo hi) p'⟩
    have e : cut ds lo hi = ds := by
      unfold cut
      rw [hv.length] at z1 z2
      rw [z1, z2]
      simp
    rw [e] at p'
    exact p'.now ra (.tup t hv)
  | loc t =>
    rename_i n a _
    have p' : Post X.K X.mg W (Rp X.K X.mg) m H (match lstAt S n with
      | some ds => mk (.lst (cut ds lo hi)) S
      | none => .bad) Q := p
    cases hl : lstAt S n with
    | none => rw [hl] at p'; exact p'.elim
    | some ds =>
      rw [hl] at p'
      obtain ⟨vs, h3, h4⟩ := ra.seq t hl
      exact sl_list pins s σ H _ v vl vu lo hi sl Q I rx hsl pl pu ⟨a, vs, rfl, h3, post_mk ra (h4.cut lo hi) p'⟩
  | _ => exact p.elim
def rSet' (K : PySem.W.Frag) (mg : Str → Option Value) : TSet := fun o i v H Q => ∃ m S d e f S', RelA K mg m H S ∧ Rp K mg m H d o ∧ Rp K mg m H e i ∧ Rp K mg m H f v ∧ setIx d e f S = some S' ∧ ∀ H', Le m m H H' → RelA K mg m H' S' → Q H'
theorem set_any (c : Ctx X) : PSet X (rSet' X.K X.mg) := by
  intro pins s σ H o i v ov iv u Q I ro ri rv ⟨m, S, d, e, f, S', ra, rd, re, rf, h, q⟩
  cases rd with
  | loc t =>
    rename_i n a _
    have h' : (match S[n]? with
      | some (.lst ds) => match (generalizing := false) e with
        | .int k => (ixN ds.length k).map fun j => S.set n (.lst (ds.set j f))
        | _ => none
      | some (.dic kvs) => (kD e).bind fun k => if kvs.length < sizeLine then some (S.set n (.dic (putA kvs k f))) else none
      | _ => none) = some S' := h
    cases hl : S[n]? with
    | none => rw [hl] at h'; cases h'
    | some so =>
      rw [hl] at h'
      cases so with
      | lst ds =>
        cases re with
        | int k =>
          have h'' : ((ixN ds.length k).map fun j => S.set n (.lst (ds.set j f))) = some S' := h'
          obtain ⟨vs, h1, h2⟩ := ra.lst t hl
          cases hj : ixN ds.length k with
          | none => rw [hj] at h''; cases h''
          | some j =>
            rw [hj] at h''
            cases h''
            exact set_list pins s σ H _ _ _ ov iv u Q I ro ri rv ⟨a, vs, k, j, rfl, rfl, h1, by rw [h2.length]; exact hj, q _ (Le.write ra t hl h1) (ra.write t hl h1 (h2.set rf j))⟩
        | _ => cases h'
      | dic kvs =>
        have h'' : ((kD e).bind fun k => if kvs.length < sizeLine then some (S.set n (.dic (putA kvs k f))) else none) = some S' := h'
        cases hk : kD e with
        | none => rw [hk] at h''; cases h''
        | some k =>
          rw [hk] at h''
          have h3' : (if kvs.length < sizeLine then some (S.set n (.dic (putA kvs k f))) else none) = some S' := h''
          by_cases cl : kvs.length < sizeLine
          · rw [if_pos cl] at h3'
            cases h3'
            have hdc : dicAt S n = some kvs := by unfold dicAt; rw [hl]
            obtain ⟨hb, _, ks, g1, g2⟩ := dic_ro ra t hdc
            subst hb
            have ey := kD_v hk re
            subst ey
            obtain rfl : ov = Value.ref a := ro
            have le : Le m m H (upd H a (.dK (putK ks k v))) := Le.writeO t g1 trivial
            refine d_setItem (by have := c.hu; omega) I (DPut.k g1 (by rw [← kvs_len g2]; exact cl)) ri rv fun s' I' => ⟨_, I', q _ le (ra.writeO t g1 trivial ⟨_, rfl, upd_same, kvs_put (kvs_mono g2 le) (rf.mono le)⟩)⟩
          · rw [if_neg cl] at h3'
            cases h3'
      | _ => cases h'
  | _ => cases h
end
end CC

namespace CC
open PySem PySem.Spec PyProof.Rows L2
/-! ### built-ins by values -/
def rBi (K : PySem.W.Frag) (mg : Str → Option Value) (b : Bi) : List V → Hp → VK → Prop := fun vs H Q => ∃ W m S ds, RelA K mg m H S ∧ Rps K mg m H ds vs ∧ Post K mg W (Rp K mg) m H (biD b ds S) Q
section
variable {K : PySem.W.Frag} {mg : Str → Option Value} {m : Mp} {H : Hp} {S : Sto} {Q : VK} {W : XK}
theorem post_opt {α β : Type} {rel : Mp → Hp → α → β → Prop} {Q : β → Hp → Prop} {o : Option α} (h : Post K mg W rel m H (R.opt o S) Q) : ∃ d, o = some d ∧ Post K mg W rel m H (.ok d S) Q := by
  cases o with
  | none => exact h.elim
  | some d => exact ⟨d, rfl, h⟩
theorem rps1 {d : D} {vs : List V} (h : Rps K mg m H [d] vs) : ∃ v, vs = [v] ∧ Rp K mg m H d v := by
  cases h with
  | cons h1 h2 => cases h2; exact ⟨_, rfl, h1⟩
theorem rps2 {d e : D} {vs : List V} (h : Rps K mg m H [d, e] vs) : ∃ v w, vs = [v, w] ∧ Rp K mg m H d v ∧ Rp K mg m H e w := by
  cases h with
  | cons h1 h2 =>
    obtain ⟨w, rfl, h3⟩ := rps1 h2
    exact ⟨_, _, rfl, h1, h3⟩
def lenS (x : D) (S : Sto) : Option Nat := match x with
  | .str z => if z.length ≤ sizeLine then some z.length else none
  | .tup ds => some ds.length
  | .loc n => (lstAt S n).map List.length
  | _ => none
theorem lenV_ok (ra : RelA K mg m H S) {d : D} {x : V} {n : Nat} (r : Rp K mg m H d x) (h : lenS d S = some n) : LenV K x H n := by
  cases r with
  | str z =>
    have h' : (if z.length ≤ sizeLine then some z.length else none) = some n := h
    by_cases c : z.length ≤ sizeLine
    · rw [if_pos c] at h'
      cases h'
      exact ⟨c, rfl⟩
    · rw [if_neg c] at h'
      cases h'
  | tup t hs =>
    cases h
    exact .inr ⟨_, t.t, hs.length.symm⟩
  | loc t =>
    rename_i k a _
    have h' : (lstAt S k).map List.length = some n := h
    cases q : lstAt S k with
    | none => rw [q] at h'; cases h'
    | some ds =>
      rw [q] at h'
      cases h'
      obtain ⟨vs, h1, h2⟩ := ra.seq t q
      exact .inl ⟨vs, h1, h2.length.symm⟩
  | _ => cases h
/-- a dict's length is asked by another rule -/
theorem lenD_cases {d : D} {S : Sto} {n : Nat} (h : lenD d S = some n) : lenS d S = some n ∨ ∃ k kvs, d = .loc k ∧ dicAt S k = some kvs ∧ n = kvs.length := by
  cases d with
  | loc k =>
    have h' : lenL (lstAt S k) (dicAt S k) = some n := h
    show (lstAt S k).map List.length = some n ∨ _
    cases q : lstAt S k with
    | some ds => rw [q] at h'; exact .inl h'
    | none =>
      rw [q] at h'
      have h2 : (dicAt S k).map List.length = some n := h'
      cases q2 : dicAt S k with
      | none => rw [q2] at h2; cases h2
      | some kvs => rw [q2] at h2; cases h2; exact .inr ⟨k, kvs, rfl, q2, rfl⟩
  | _ => exact .inl h
theorem ints_at (ra : RelA K mg m H S) {n : Nat} {a : Addr} {b : Bool} {ns : List Int} (t : m[n]? = some (a, b)) (h : (lstAt S n).bind intsOf = some ns) : SqL K H a (ns.map V.int) := by
  cases q : lstAt S n with
  | none => rw [q] at h; cases h
  | some ds =>
    rw [q] at h
    obtain ⟨vs, h1, h2⟩ := ra.seq t q
    rw [h2.ints h] at h1
    exact h1
theorem bls_at (ra : RelA K mg m H S) {n : Nat} {a : Addr} {b : Bool} {ns : List Bool} (t : m[n]? = some (a, b)) (h : (lstAt S n).bind blsOf = some ns) : SqL K H a (ns.map V.bl) := by
  cases q : lstAt S n with
  | none => rw [q] at h; cases h
  | some ds =>
    rw [q] at h
    obtain ⟨vs, h1, h2⟩ := ra.seq t q
    rw [h2.bls h] at h1
    exact h1
theorem tyX_ok (ra : RelA K mg m H S) {d : D} {x : V} {a : String} (r : Rp K mg m H d x) (h : tyOfD d S = some a) : TyX K H x (.type a) := by
  cases r with
  | non => cases h; exact .base .non
  | bl b => cases h; exact .base (.bl b)
  | int i => cases h; exact .base (.int i)
  | str z => cases h; exact .base (.str z)
  | tup t hs =>
    cases h
    rcases t with t | ⟨o, its, n, t, c, _⟩
    · exact .base (.tup t)
    · exact .kTuple t c
  | loc t =>
    rename_i k p _
    have h' : (match S[k]? with
      | some (.lst _) => some "list"
      | some (.dic _) => some "dict"
      | _ => none) = some a := h
    cases q : S[k]? with
    | none => rw [q] at h'; cases h'
    | some so =>
      rw [q] at h'
      cases so with
      | lst ds =>
        cases h'
        obtain ⟨vs, h1, _⟩ := ra.lst t q
        exact .base (.lst h1)
      | dic _ =>
        cases h'
        obtain ⟨ks, _, h1, _⟩ := ra.at_ k (p, _) _ t q
        exact .base (.dK h1)
      | _ => cases h'
  | _ => cases h
end
def someTy : List String := ["NoneType", "bool", "int", "str", "tuple", "list", "dict"]
theorem kit_some : ∀ a ∈ someTy, ∀ b ∈ ["int", "bool", "str", "tuple", "list", "dict"], kitB a b = some (subTy a b) := by decide +kernel
theorem tyOfD_some {d : D} {S : Sto} {a : String} (h : tyOfD d S = some a) : a ∈ someTy := by
  unfold tyOfD at h
  cases d with
  | loc k =>
    simp only at h
    cases q : S[k]? with
    | none => rw [q] at h; cases h
    | some so => rw [q] at h; cases so <;> first | (cases h; done) | (cases h; decide)
  | _ => first | (cases h; done) | (cases h; decide)
theorem known_mem {b : String} (h : knownTy b = true) : b ∈ ["int", "bool", "str", "tuple", "list", "dict"] := by
  unfold knownTy at h
  simp only [Bool.or_eq_true, beq_iff_eq] at h
  simp only [List.mem_cons, List.not_mem_nil, or_false]
  rcases h with ((((h | h) | h) | h) | h) | h <;> simp [h]
theorem kitOne_ok {K : PySem.W.Frag} {a b : String} (ha : a ∈ someTy) (hb : knownTy b = true) : PySem.W.kitOne K (.type a) (.type b) = some (subTy a b) := kit_ty (kit_some a ha b (known_mem hb))
theorem leastI_mem : ∀ (l : List Int) (m : Int), leastI m l ∈ m :: l
  | [], m => by simp [leastI]
  | x :: r, m => by
    unfold leastI
    have := leastI_mem r (if x < m then x else m)
    rcases List.mem_cons.mp this with h | h
    · rw [h]
      split <;> simp
    · exact List.mem_cons_of_mem _ (List.mem_cons_of_mem _ h)
theorem leastI_le : ∀ (l : List Int) (m : Int), ∀ y ∈ m :: l, leastI m l ≤ y
  | [], m, y, h => by simp at h; subst h; exact Int.le_refl _
  | x :: r, m, y, h => by
    unfold leastI
    have ih := leastI_le r (if x < m then x else m)
    have h0 := ih _ List.mem_cons_self
    rcases List.mem_cons.mp h with e | h
    · subst e
      refine Int.le_trans h0 ?_
      split <;> omega
    · rcases List.mem_cons.mp h with e | h
      · subst e
        refine Int.le_trans h0 ?_
        split <;> omega
      · exact ih y (List.mem_cons_of_mem _ h)
theorem mostI_mem : ∀ (l : List Int) (m : Int), mostI m l ∈ m :: l
  | [], m => by simp [mostI]
  | x :: r, m => by
    unfold mostI
    have := mostI_mem r (if m < x then x else m)
    rcases List.mem_cons.mp this with h | h
    · rw [h]
      split <;> simp
    · exact List.mem_cons_of_mem _ (List.mem_cons_of_mem _ h)
theorem mostI_le : ∀ (l : List Int) (m : Int), ∀ y ∈ m :: l, y ≤ mostI m l
  | [], m, y, h => by simp at h; subst h; exact Int.le_refl _
  | x :: r, m, y, h => by
    unfold mostI
    have ih := mostI_le r (if m < x then x else m)
    have h0 := ih _ List.mem_cons_self
    rcases List.mem_cons.mp h with e | h
    · subst e
      refine Int.le_trans ?_ h0
      split <;> omega
    · rcases List.mem_cons.mp h with e | h
      · subst e
        refine Int.le_trans ?_ h0
        split <;> omega
      · exact ih y (List.mem_cons_of_mem _ h)
section
variable {X : Cx}
theorem bi_len : CallR X (.builtin "len") (rBi X.K X.mg .len) := by
  intro pins s σ H xs us Q I r ⟨W, m, S, ds, ra, rs, p⟩
  cases ds with
  | nil => exact p.elim
  | cons d ds =>
    cases ds with
    | cons _ _ => exact p.elim
    | nil =>
      obtain ⟨x, rfl, rx⟩ := rps1 rs
      obtain ⟨z, hz, p'⟩ := post_opt (show Post X.K X.mg W (Rp X.K X.mg) m H (R.opt ((lenD d S).map fun n => D.int n) S) Q from p)
      cases hl : lenD d S with
      | none => rw [hl] at hz; cases hz
      | some n =>
        rw [hl] at hz
        cases hz
        rcases lenD_cases hl with hl | ⟨k, kvs, rfl, hdc, rfl⟩
        · exact call_len pins s σ H _ us Q I r ⟨x, n, rfl, lenV_ok ra rx hl, p'.now ra (.int _)⟩
        · cases rx with
          | loc t =>
            rename_i a _
            obtain ⟨_, _, ks, g1, g2⟩ := dic_ro ra t hdc
            obtain ⟨u, rfl, ru⟩ := vals1 r
            obtain rfl : u = Value.ref a := ru
            exact d_len I (.inl g1) fun t' s' I' => ⟨.int kvs.length, H, I', ⟨t', by rw [kvs_len g2]⟩, p'.now ra (.int _)⟩
theorem bi_abs : CallR X (.builtin "abs") (rBi X.K X.mg .abs) := by
  intro pins s σ H xs us Q I r ⟨W, m, S, ds, ra, rs, p⟩
  match ds, p, rs with
  | [.int i], p, rs =>
    obtain ⟨x, rfl, rx⟩ := rps1 rs
    cases rx
    exact call_abs pins s σ H _ us Q I r ⟨i, rfl, Post.now p ra (.int _)⟩
theorem bi_max (hc : X.calm = true) : CallR X (.builtin "max") (rBi X.K X.mg .max) := by
  intro pins s σ H xs us Q I r ⟨W, m, S, ds, ra, rs, p⟩
  match ds, p, rs with
  | [.int i, .int j], p, rs =>
    obtain ⟨x, y, rfl, rx, ry⟩ := rps2 rs
    cases rx
    cases ry
    exact call_max2 hc pins s σ H _ us Q I r ⟨i, j, rfl, Post.now p ra (.int _)⟩
  | [.loc n], p, rs =>
    obtain ⟨x, rfl, rx⟩ := rps1 rs
    cases rx with
    | loc t =>
      cases q : (lstAt S n).bind intsOf with
      | none =>
        simp only [biD, q] at p
        exact p.elim
      | some ns =>
        cases ns with
        | nil =>
          simp only [biD, q] at p
          exact p.elim
        | cons z l =>
          simp only [biD, q] at p
          refine cr_max hc pins s σ H _ us Q I r ⟨_, z :: l, rfl, ints_at ra t q, by simp, fun k hk hle => ?_⟩
          have e : k = mostI z l := Int.le_antisymm (mostI_le l z k hk) (hle _ (mostI_mem l z))
          rw [e]
          exact Post.now p ra (.int _)
theorem bi_min (hc : X.calm = true) : CallR X (.builtin "min") (rBi X.K X.mg .min) := by
  intro pins s σ H xs us Q I r ⟨W, m, S, ds, ra, rs, p⟩
  match ds, p, rs with
  | [.int i, .int j], p, rs =>
    obtain ⟨x, y, rfl, rx, ry⟩ := rps2 rs
    cases rx
    cases ry
    exact call_min2 hc pins s σ H _ us Q I r ⟨i, j, rfl, Post.now p ra (.int _)⟩
  | [.loc n], p, rs =>
    obtain ⟨x, rfl, rx⟩ := rps1 rs
    cases rx with
    | loc t =>
      cases q : (lstAt S n).bind intsOf with
      | none =>
        simp only [biD, q] at p
        exact p.elim
      | some ns =>
        cases ns with
        | nil =>
          simp only [biD, q] at p
          exact p.elim
        | cons z l =>
          simp only [biD, q] at p
          refine cr_min hc pins s σ H _ us Q I r ⟨_, z :: l, rfl, ints_at ra t q, by simp, fun k hk hle => ?_⟩
          have e : k = leastI z l := Int.le_antisymm (hle _ (leastI_mem l z)) (leastI_le l z k hk)
          rw [e]
          exact Post.now p ra (.int _)
theorem bi_sum (hc : X.calm = true) : CallR X (.builtin "sum") (rBi X.K X.mg .sum) := by
  intro pins s σ H xs us Q I r ⟨W, m, S, ds, ra, rs, p⟩
  match ds, p, rs with
  | [.loc n], p, rs =>
    obtain ⟨x, rfl, rx⟩ := rps1 rs
    cases rx with
    | loc t =>
      cases q : (lstAt S n).bind intsOf with
      | none =>
        simp only [biD, q] at p
        exact p.elim
      | some ns =>
        simp only [biD, q] at p
        exact cr_sum hc pins s σ H _ us Q I r ⟨_, ns, rfl, ints_at ra t q, Post.now p ra (.int _)⟩
theorem bi_all (hc : X.calm = true) : CallR X (.builtin "all") (rBi X.K X.mg .all) := by
  intro pins s σ H xs us Q I r ⟨W, m, S, ds, ra, rs, p⟩
  match ds, p, rs with
  | [.loc n], p, rs =>
    obtain ⟨x, rfl, rx⟩ := rps1 rs
    cases rx with
    | loc t =>
      cases q : (lstAt S n).bind blsOf with
      | none =>
        simp only [biD, q] at p
        exact p.elim
      | some ns =>
        simp only [biD, q] at p
        exact cr_all hc pins s σ H _ us Q I r ⟨_, ns, rfl, bls_at ra t q, Post.now p ra (.bl _)⟩
theorem bi_any (hc : X.calm = true) : CallR X (.builtin "any") (rBi X.K X.mg .any) := by
  intro pins s σ H xs us Q I r ⟨W, m, S, ds, ra, rs, p⟩
  match ds, p, rs with
  | [.loc n], p, rs =>
    obtain ⟨x, rfl, rx⟩ := rps1 rs
    cases rx with
    | loc t =>
      cases q : (lstAt S n).bind blsOf with
      | none =>
        simp only [biD, q] at p
        exact p.elim
      | some ns =>
        simp only [biD, q] at p
        exact cr_any hc pins s σ H _ us Q I r ⟨_, ns, rfl, bls_at ra t q, Post.now p ra (.bl _)⟩
theorem bi_int : CallR X (.type "int") (rBi X.K X.mg .int) := by
  intro pins s σ H xs us Q I r ⟨W, m, S, ds, ra, rs, p⟩
  match ds, p, rs with
  | [.int i], p, rs =>
    obtain ⟨x, rfl, rx⟩ := rps1 rs
    cases rx
    exact call_int1 pins s σ H _ us Q I r (.inl ⟨i, rfl, Post.now p ra (.int _)⟩)
  | [.bl b], p, rs =>
    obtain ⟨x, rfl, rx⟩ := rps1 rs
    cases rx
    exact call_int1 pins s σ H _ us Q I r (.inr ⟨b, rfl, Post.now p ra (.int _)⟩)
theorem bi_list : CallR X (.type "list") (rBi X.K X.mg .list) := by
  intro pins s σ H xs us Q I r ⟨W, m, S, ds, ra, rs, p⟩
  match ds, p, rs with
  | [.loc n], p, rs =>
    obtain ⟨x, rfl, rx⟩ := rps1 rs
    cases rx with
    | loc t =>
      cases q : lstAt S n with
      | none =>
        simp only [biD, q] at p
        exact p.elim
      | some es =>
        simp only [biD, q] at p
        obtain ⟨vs, h1, h2⟩ := ra.seq t q
        exact call_list_of pins s σ H _ us Q I r ⟨_, vs, rfl, .inl h1, post_mk ra h2 p⟩
  | [.tup es], p, rs =>
    obtain ⟨x, rfl, rx⟩ := rps1 rs
    cases rx with
    | tup t hs => exact call_list_of pins s σ H _ us Q I r ⟨_, _, rfl, .inr t.t, post_mk ra hs p⟩
theorem bi_tuple : CallR X (.type "tuple") (rBi X.K X.mg .tuple) := by
  intro pins s σ H xs us Q I r ⟨W, m, S, ds, ra, rs, p⟩
  match ds, p, rs with
  | [.loc n], p, rs =>
    obtain ⟨x, rfl, rx⟩ := rps1 rs
    cases rx with
    | loc t =>
      cases q : lstAt S n with
      | none =>
        simp only [biD, q] at p
        exact p.elim
      | some es =>
        simp only [biD, q] at p
        obtain ⟨vs, h1, h2⟩ := ra.seq t q
        exact call_tuple_of pins s σ H _ us Q I r ⟨_, vs, rfl, .inl ⟨h1, post_tup ra h2 p⟩⟩
  | [.tup es], p, rs =>
    obtain ⟨x, rfl, rx⟩ := rps1 rs
    cases rx with
    | tup t hs => exact call_tuple_of pins s σ H _ us Q I r ⟨_, _, rfl, .inr ⟨t.t, Post.now p ra (.tup t hs)⟩⟩
theorem bi_isinst : CallR X (.builtin "isinstance") (rBi X.K X.mg .isinst) := by
  intro pins s σ H xs us Q I r ⟨W, m, S, ds, ra, rs, p⟩
  match ds, p, rs with
  | [d, e], p, rs =>
    obtain ⟨x, y, rfl, rx, ry⟩ := rps2 rs
    obtain ⟨z, hz, p'⟩ := post_opt (show Post X.K X.mg W (Rp X.K X.mg) m H (R.opt ((isinst d e S).map D.bl) S) Q from p)
    have hz' : ((tyOfD d S).bind fun a => isT a e).map D.bl = some z := hz
    cases ht : tyOfD d S with
    | none => rw [ht] at hz'; cases hz'
    | some a =>
      rw [ht] at hz'
      have tx := tyX_ok ra rx ht
      have h1 : (isT a e).map D.bl = some z := hz'
      clear hz hz' p
      unfold isT at h1
      split at h1
      · rename_i b
        by_cases c : knownTy b = true
        · rw [if_pos c] at h1
          cases h1
          cases ry
          exact call_isi pins s σ H _ us Q I r ⟨x, .ty b, .type a, .type b, subTy a b, rfl, .ty b, tx, kitOne_ok (tyOfD_some ht) c, p'.now ra (.bl _)⟩
        · rw [if_neg c] at h1
          cases h1
      · rename_i b c
        by_cases k : (knownTy b && knownTy c) = true
        · rw [if_pos k] at h1
          cases h1
          obtain ⟨k1, k2⟩ := Bool.and_eq_true_iff.mp k
          cases ry with
          | @tup tp vs _ t hs =>
            obtain ⟨v1, v2, rfl, r1, r2⟩ := rps2 hs
            cases r1
            cases r2
            have kk : PySem.W.kitAny X.K (.type a) [.type b, .type c] = some (subTy a b || subTy a c) := by
              refine kitAny_cons (kitOne_ok (tyOfD_some ht) k1) (fun hb => ?_) (fun hb => by rw [hb]; rfl)
              rw [hb, Bool.false_or]
              exact kitAny_cons (kitOne_ok (tyOfD_some ht) k2) (fun hc => by rw [hc]; exact kitAny_nil) (fun hc => hc)
            rcases t with t | ⟨o, its, n, t, c1, c2, c3, c4⟩
            · exact call_isiT pins s σ H _ us Q I r ⟨x, tp, [.ty b, .ty c], .type a, [.type b, .type c], _, rfl, t, .cons (.ty b) (.cons (.ty c) .nil), tx, kk, p'.now ra (.bl _)⟩
            · have ei : its = #[.type b, .type c] := by
                obtain ⟨w1, w2, e1, q1, q2⟩ := vals2 c4
                have q1' : w1 = .type b := q1
                have q2' : w2 = .type c := q2
                subst q1'
                subst q2'
                rw [← Array.toArray_toList (xs := its), e1]
              obtain ⟨oc, od, oda, osl⟩ := o
              have e1 : oc = .type "tuple" := c1
              have e2 : oda = .seq its n := c2
              subst e1
              subst e2
              subst ei
              exact call_isiK pins s σ H _ us Q I r ⟨x, tp, od, [.type b, .type c], n, osl, .type a, _, rfl, t, tx, kk, p'.now ra (.bl _)⟩
        · rw [if_neg k] at h1
          cases h1
      · cases h1
end
end CC

namespace CC
open PySem PySem.Spec PyProof.Rows L2
/-! ### readings -/
def tG {α β : Type} (K : PySem.W.Frag) (mg : Str → Option Value) (W : WX) (rel : Mp → Hp → α → β → Prop) (f : Env → Sto → R α) : L2.St → Hp → (β → Hp → Prop) → Prop := fun σ H Q =>
  ∃ m ρ S, RelA K mg m H S ∧ RelE K mg m H σ ρ ∧ Post K mg (fun c d H' => W c d σ H') rel m H (f ρ S) Q
abbrev relEq {α : Type} : Mp → Hp → α → α → Prop := fun _ _ a b => a = b
abbrev tD (X : Cx) (C : CallSem) (G : Nat → Option D) (W : WX) (e : Xp) : TE   := tG X.K X.mg W (Rp X.K X.mg) (ev C G e)
abbrev tDT (X : Cx) (C : CallSem) (G : Nat → Option D) (W : WX) (e : Xp) : TT   := tG X.K X.mg W relEq (fun ρ S => asT (ev C G e ρ S))
abbrev tDs (X : Cx) (C : CallSem) (G : Nat → Option D) (W : WX) (e : Xp) : TA   := tG X.K X.mg W (Rps X.K X.mg) (evs C G e)
abbrev tDp (X : Cx) (C : CallSem) (G : Nat → Option D) (W : WX) (e : Xp) : TO   := tG X.K X.mg W relEq (evp C G e)
def SrcOk (K : PySem.W.Frag) (mg : Str → Option Value) (m0 : Mp) (H0 : Hp) (src : Src) (J : It) : Prop :=
  ∀ m H S i, Le m0 m H0 H → RelA K mg m H S → (src.get i S = some none → J.stop i H) ∧
    ∀ d, src.get i S = some (some d) → J.go i H ∧ ∀ x H', J.yld i H x H' → Le m m H H' ∧ RelA K mg m H' S ∧ Rp K mg m H' d x
abbrev tDi (X : Cx) (C : CallSem) (G : Nat → Option D) (W : WX) (e : Xp) : TI   := tG X.K X.mg W (SrcOk X.K X.mg) (evi C G e)
/-- the globals that a def may read -/
def GOk (K : PySem.W.Frag) (mg : Str → Option Value) (gn : List Str) (G : Nat → Option D) : Prop := ∀ i x d, gn[i]? = some x → G i = some d → ∃ u v, mg x = some u ∧ RelV v u ∧ ∀ m H, Rp K mg m H d v
section
variable {X : Cx} {C : CallSem} {G : Nat → Option D} {W : WX} {a b c e : Expr} {A B D' : Xp} {pos : Pos}
theorem de_var {i : Nat} (h : PE X e (tVar i)) : PE X e (tD X C G W (.var i)) := PE_imp h fun σ H Q ⟨m, ρ, S, ra, re, p⟩ => by
  obtain ⟨d, hd, p'⟩ := post_opt (show Post X.K X.mg (fun c d H' => W c d σ H') (Rp X.K X.mg) m H (R.opt (ρ[i]?.bind id) S) Q from p)
  cases q : ρ[i]? with
  | none => rw [q] at hd; cases hd
  | some o =>
    rw [q] at hd
    have ho : o = some d := hd
    subst ho
    obtain ⟨v, h1, h2⟩ := re.at_ i d q
    exact ⟨v, h1, p'.now ra h2⟩
theorem de_glo {x : Str} {i : Nat} {gn : List Str} (gok : GOk X.K X.mg gn G) (hx : gn[i]? = some x) (hg : Gl X x) (hd : (x == ("__debug__" : Str)) = false := by decide) : PE X (.Name x pos) (tD X C G W (.glo i)) := by
  cases q : G i with
  | none =>
    refine PE_never fun σ H Q ⟨m, ρ, S, ra, re, p⟩ => ?_
    have p' : Post X.K X.mg (fun c d H' => W c d σ H') (Rp X.K X.mg) m H (R.opt (G i) S) Q := p
    rw [q] at p'
    exact p'
  | some d =>
    obtain ⟨u, v, h1, h2, h3⟩ := gok i x d hx q
    refine PE_imp (pe_glob hg h1 h2 hd) fun σ H Q ⟨m, ρ, S, ra, re, p⟩ => ?_
    have p' : Post X.K X.mg (fun c d H' => W c d σ H') (Rp X.K X.mg) m H (R.opt (G i) S) Q := p
    rw [q] at p'
    exact p'.now ra (h3 m H)
theorem de_non {j} : PE X (.Constant .none j pos) (tD X C G W .non) := PE_imp pe_non fun σ H Q ⟨m, ρ, S, ra, re, p⟩ => p.now ra .non
theorem de_bl {v j} : PE X (.Constant (.bool v) j pos) (tD X C G W (.bl v)) := PE_imp pe_bl fun σ H Q ⟨m, ρ, S, ra, re, p⟩ => p.now ra (.bl v)
theorem de_int {v j} : PE X (.Constant (.int v) j pos) (tD X C G W (.int v)) := PE_imp pe_int fun σ H Q ⟨m, ρ, S, ra, re, p⟩ => p.now ra (.int v)
theorem de_str {v j} : PE X (.Constant (.str v) j pos) (tD X C G W (.str v)) := PE_imp pe_str fun σ H Q ⟨m, ρ, S, ra, re, p⟩ => p.now ra (.str v)
theorem de_ty {x : Str} {t : String} (cx : Ctx X) (hx : x ∈ bnames) (hg : Gl X x) (hv : bootBuiltins x = some (.type t)) (hn : x ≠ "__name__" := by decide) (hd : (x == ("__debug__" : Str)) = false := by decide) :
    PE X (.Name x pos) (tD X C G W (.tyc t)) := PE_imp (pe_bltn (v := .ty t) hg (cx.nob x hx) hv rfl hn hd) fun σ H Q ⟨m, ρ, S, ra, re, p⟩ => p.now ra (.ty t)
theorem de_bin {op : Operator} (ha : PE X a (tD X C G W A)) (hb : PE X b (tD X C G W B)) : PE X (.BinOp a op b pos) (tD X C G W (.bin op A B)) :=
  PE_imp (pe_op (op_bin op) ha hb) fun σ H Q ⟨m, ρ, S, ra, re, p⟩ => ⟨m, ρ, S, ra, re, Post.imp (Post.bind p) fun x H1 ⟨m1, d, S1, l1, ra1, r1, p1⟩ =>
    ⟨m1, ρ, S1, ra1, re.mono l1, Post.imp (Post.bind p1) fun y H2 ⟨m2, d2, S2, l2, ra2, r2, p2⟩ => ⟨_, m2, S2, d, d2, ra2, r1.mono l2, r2, p2⟩⟩⟩
theorem asI_rp {K : PySem.W.Frag} {mg : Str → Option Value} {V' : XK} {m : Mp} {H : Hp} {r : R D} {f : Int → Sto → R α} {Q : β → Hp → Prop} {rel : Mp → Hp → α → β → Prop} (h : Post K mg V' rel m H ((asI r).bind f) Q) :
    Post K mg V' (Rp K mg) m H r (fun v H1 => ∃ m1 i S1, v = .int i ∧ Le m m1 H H1 ∧ RelA K mg m1 H1 S1 ∧ Post K mg V' rel m1 H1 (f i S1) Q) := by
  cases r with
  | bad => exact h
  | exc c p S => exact h
  | ok d S =>
    cases d with
    | int i =>
      intro m' H' v l ra rp
      cases rp
      exact ⟨m', i, S, rfl, l, ra, Post.move l h⟩
    | _ => exact h.elim
theorem de_neg (ha : PE X a (tD X C G W A)) : PE X (.UnaryOp .USub a pos) (tD X C G W (.neg A)) :=
  PE_imp (pe_un un_neg ha) fun σ H Q ⟨m, ρ, S, ra, re, p⟩ => ⟨m, ρ, S, ra, re, Post.imp (asI_rp p) fun x H1 ⟨m1, i, S1, e1, l1, ra1, p1⟩ => ⟨i, e1, p1.now ra1 (.int _)⟩⟩
/-- a value's truth as a test -/
theorem asT_rp {K : PySem.W.Frag} {mg : Str → Option Value} {V' : XK} {m : Mp} {H : Hp} {r : R D} {Q : Bool → Hp → Prop} (h : Post K mg V' relEq m H (asT r) Q) :
    Post K mg V' (Rp K mg) m H r (fun v H1 => ∃ k, TruV K v H1 k ∧ Q k H1) := by
  cases r with
  | bad => exact h
  | exc c p S => exact h
  | ok d S =>
    intro m' H' v l ra rp
    obtain ⟨k, hk, p⟩ := post_opt (show Post K mg V' relEq m H (R.opt (truth d S) S) Q from h)
    exact ⟨k, tru_v ra rp hk, p m' H' k l ra rfl⟩
theorem asT_bind {K : PySem.W.Frag} {mg : Str → Option Value} {V' : XK} {m : Mp} {H : Hp} {r : R D} {f : Bool → Sto → R α} {Q : β → Hp → Prop} {rel : Mp → Hp → α → β → Prop} (h : Post K mg V' rel m H ((asT r).bind f) Q) :
    Post K mg V' (Rp K mg) m H r (fun v H1 => ∃ m1 k S1, TruV K v H1 k ∧ Le m m1 H H1 ∧ RelA K mg m1 H1 S1 ∧ Post K mg V' rel m1 H1 (f k S1) Q) := by
  cases r with
  | bad => exact h
  | exc c p S => exact h
  | ok d S =>
    intro m' H' v l ra rp
    cases ht : truth d S with
    | none =>
      have h' : Post K mg V' rel m H ((R.opt (truth d S) S).bind f) Q := h
      rw [ht] at h'
      exact h'.elim
    | some k =>
      have h' : Post K mg V' rel m H ((R.opt (truth d S) S).bind f) Q := h
      rw [ht] at h'
      exact ⟨m', k, S, tru_v ra rp ht, l, ra, Post.move l h'⟩
theorem de_nt (ha : PE X a (tD X C G W A)) : PE X (.UnaryOp .Not a pos) (tD X C G W (.nt A)) :=
  PE_imp (pe_notT ha) fun σ H Q ⟨m, ρ, S, ra, re, p⟩ => ⟨m, ρ, S, ra, re, Post.imp (asT_bind p) fun x H1 ⟨m1, k, S1, e1, l1, ra1, p1⟩ => ⟨k, e1, p1.now ra1 (.bl _)⟩⟩
theorem de_and {rest : List Expr} (ha : PE X a (tD X C G W A)) (hb : PE X (.BoolOp .And (b :: rest) pos) (tD X C G W B)) : PE X (.BoolOp .And (a :: b :: rest) pos) (tD X C G W (.and A B)) :=
  PE_imp (pe_andT ha hb) fun σ H Q ⟨m, ρ, S, ra, re, p⟩ => ⟨m, ρ, S, ra, re, Post.imp (Post.bind p) fun x H1 ⟨m1, d, S1, l1, ra1, r1, p1⟩ => by
    cases ht : truth d S1 with
    | none => simp only [ht] at p1; exact p1.elim
    | some k =>
      refine ⟨k, tru_v ra1 r1 ht, ?_⟩
      cases k with
      | true => simp only [ht] at p1; exact ⟨m1, ρ, S1, ra1, re.mono l1, p1⟩
      | false => simp only [ht] at p1; exact p1.now ra1 r1⟩
theorem de_or {rest : List Expr} (ha : PE X a (tD X C G W A)) (hb : PE X (.BoolOp .Or (b :: rest) pos) (tD X C G W B)) : PE X (.BoolOp .Or (a :: b :: rest) pos) (tD X C G W (.or A B)) :=
  PE_imp (pe_orT ha hb) fun σ H Q ⟨m, ρ, S, ra, re, p⟩ => ⟨m, ρ, S, ra, re, Post.imp (Post.bind p) fun x H1 ⟨m1, d, S1, l1, ra1, r1, p1⟩ => by
    cases ht : truth d S1 with
    | none => simp only [ht] at p1; exact p1.elim
    | some k =>
      refine ⟨k, tru_v ra1 r1 ht, ?_⟩
      cases k with
      | false => simp only [ht] at p1; exact ⟨m1, ρ, S1, ra1, re.mono l1, p1⟩
      | true => simp only [ht] at p1; exact p1.now ra1 r1⟩
theorem de_cmp {op : CmpOp} (cx : Ctx X) (ha : PE X a (tD X C G W A)) (hb : PE X b (tD X C G W B)) (hm : behindInMarks op b = false := by rfl) : PE X (.Compare a [op] [b] pos) (tD X C G W (.cmp op A B)) :=
  PE_imp (pe_cmpR (op_cmp cx op) ha hb hm) fun σ H Q ⟨m, ρ, S, ra, re, p⟩ => ⟨m, ρ, S, ra, re, Post.imp (Post.bind p) fun x H1 ⟨m1, d, S1, l1, ra1, r1, p1⟩ =>
    ⟨m1, ρ, S1, ra1, re.mono l1, Post.imp (Post.bind p1) fun y H2 ⟨m2, d2, S2, l2, ra2, r2, p2⟩ => by
      obtain ⟨z, hz, p3⟩ := post_opt p2
      cases hc : cmpD op d d2 S2 with
      | none => rw [hc] at hz; cases hz
      | some k =>
        rw [hc] at hz
        cases hz
        exact ⟨m2, S2, d, d2, k, ra2, r1.mono l2, r2, hc, p3.now ra2 (.bl _)⟩⟩⟩
theorem i_cmp2 {op op' : CmpOp} {σ : L2.St} {H : Hp} {Q : VK} (h : tD X C G W (.cmp2 op op' A B D') σ H Q) :
    tChain (rC X.K X.mg (cmpD op)) (rC X.K X.mg (cmpD op')) (tD X C G W A) (tD X C G W B) (tD X C G W D') σ H Q := by
  obtain ⟨m, ρ, S, ra, re, p⟩ := h
  refine ⟨m, ρ, S, ra, re, Post.imp (Post.bind p) fun x H1 ⟨m1, d, S1, l1, ra1, r1, p1⟩ => ?_⟩
  refine ⟨m1, ρ, S1, ra1, re.mono l1, Post.imp (Post.bind p1) fun y H2 ⟨m2, d2, S2, l2, ra2, r2, p2⟩ => ?_⟩
  cases hq : cmpD op d d2 S2 with
  | none => simp only [hq] at p2; exact p2.elim
  | some k =>
    refine ⟨m2, S2, d, d2, k, ra2, r1.mono l2, r2, hq, k, rfl, ?_⟩
    cases k with
    | false => simp only [hq] at p2; exact p2.now ra2 (.bl _)
    | true =>
      simp only [hq] at p2
      refine ⟨m2, ρ, S2, ra2, (re.mono l1).mono l2, Post.imp (Post.bind p2) fun z H3 ⟨m3, d3, S3, l3, ra3, r3, p3⟩ => ?_⟩
      obtain ⟨z', hz, p4⟩ := post_opt p3
      cases hc' : cmpD op' d2 d3 S3 with
      | none => rw [hc'] at hz; cases hz
      | some k' =>
        rw [hc'] at hz
        cases hz
        exact ⟨m3, S3, d2, d3, k', ra3, r2.mono l3, r3, hc', p4.now ra3 (.bl _)⟩
theorem de_cmp2 {op op' : CmpOp} (cx : Ctx X) (ha : PE X a (tD X C G W A)) (hb : PE X b (tD X C G W B)) (hc : PE X c (tD X C G W D')) (hm : lastMarks [op, op'] [b, c] = false := by with_unfolding_all rfl) :
    PE X (.Compare a [op, op'] [b, c] pos) (tD X C G W (.cmp2 op op' A B D')) :=
  PE_imp (pe_chain (op_cmp cx op) (op_cmp cx op') ha hb hc hm) fun σ H Q h => i_cmp2 h
theorem bl_cmp2 {op op' : CmpOp} {ρ : Env} {S S' : Sto} {d : D} (h : ev C G (.cmp2 op op' A B D') ρ S = .ok d S') : ∃ k, d = .bl k := by
  have h' : ((ev C G A ρ S).bind fun x S1 => (ev C G B ρ S1).bind fun y S2 => match cmpD op x y S2 with
    | some true => (ev C G D' ρ S2).bind fun z S3 => R.opt ((cmpD op' y z S3).map D.bl) S3
    | some false => .ok (.bl false) S2
    | none => .bad) = .ok d S' := h
  cases e1 : ev C G A ρ S with
  | bad => rw [e1] at h'; cases h'
  | exc _ _ _ => rw [e1] at h'; cases h'
  | ok x S1 =>
    rw [e1] at h'
    simp only [R.bind_ok] at h'
    cases e2 : ev C G B ρ S1 with
    | bad => rw [e2] at h'; cases h'
    | exc _ _ _ => rw [e2] at h'; cases h'
    | ok y S2 =>
      rw [e2] at h'
      simp only [R.bind_ok] at h'
      split at h'
      · cases e3 : ev C G D' ρ S2 with
        | bad => rw [e3] at h'; cases h'
        | exc _ _ _ => rw [e3] at h'; cases h'
        | ok z S3 =>
          rw [e3] at h'
          simp only [R.bind_ok] at h'
          cases e4 : cmpD op' y z S3 with
          | none => rw [e4] at h'; cases h'
          | some k => rw [e4] at h'; cases h'; exact ⟨k, rfl⟩
      · cases h'
        exact ⟨false, rfl⟩
      · cases h'
/-! tests -/
theorem dt_tru (ha : PE X a (tD X C G W A)) (he : ∀ whole, isTrue a X.env whole = (do let v ← whole; standAt a.pos; holding [v] (truthy v)) := by intro _; rfl) : PT X a (tDT X C G W A) :=
  PT_imp (pt_truth ha he) fun σ H Q ⟨m, ρ, S, ra, re, p⟩ => ⟨m, ρ, S, ra, re, asT_rp p⟩
theorem asT_nt (r : R D) : asT ((asT r).bind fun b S1 => .ok (.bl (!b)) S1) = (asT r).bind fun b S1 => .ok (!b) S1 := by
  cases asT r <;> rfl
theorem dt_nt (ha : PT X a (tDT X C G W A)) : PT X (.UnaryOp .Not a pos) (tDT X C G W (.nt A)) :=
  PT_imp (pt_not ha) fun σ H Q ⟨m, ρ, S, ra, re, p⟩ => by
    have p' : Post X.K X.mg (fun c d H' => W c d σ H') relEq m H (asT ((asT (ev C G A ρ S)).bind fun b S1 => .ok (.bl (!b)) S1)) Q := p
    rw [asT_nt] at p'
    exact ⟨m, ρ, S, ra, re, Post.imp (Post.bind (rel1 := relEq) p') fun k H1 ⟨m1, d, S1, l1, ra1, r1, p1⟩ => by
      have r1' : d = k := r1
      subst r1'
      exact p1.now ra1 rfl⟩
theorem asT_and {r : R D} {f : Sto → R D} : asT (r.bind fun x S1 => match truth x S1 with
    | some true => f S1
    | some false => .ok x S1
    | none => .bad) = (asT r).bind fun b S1 => if b then asT (f S1) else .ok false S1 := by
  cases r with
  | bad => rfl
  | exc c p S => rfl
  | ok x S =>
    show asT (match truth x S with | some true => f S | some false => .ok x S | none => .bad) = (R.opt (truth x S) S).bind fun b S1 => if b then asT (f S1) else .ok false S1
    cases h : truth x S with
    | none => rfl
    | some k =>
      cases k with
      | true => rfl
      | false =>
        show R.opt (truth x S) S = _
        rw [h]
        rfl
theorem asT_or {r : R D} {f : Sto → R D} : asT (r.bind fun x S1 => match truth x S1 with
    | some true => .ok x S1
    | some false => f S1
    | none => .bad) = (asT r).bind fun b S1 => if b then .ok true S1 else asT (f S1) := by
  cases r with
  | bad => rfl
  | exc c p S => rfl
  | ok x S =>
    show asT (match truth x S with | some true => .ok x S | some false => f S | none => .bad) = (R.opt (truth x S) S).bind fun b S1 => if b then .ok true S1 else asT (f S1)
    cases h : truth x S with
    | none => rfl
    | some k =>
      cases k with
      | false => rfl
      | true =>
        show R.opt (truth x S) S = _
        rw [h]
        rfl
theorem dw_one_and (ha : PT X a (tDT X C G W A)) : PW X (.BoolOp .And [a] pos) (tDT X C G W A) := pw_and1 ha
theorem dw_one_or (ha : PT X a (tDT X C G W A)) : PW X (.BoolOp .Or [a] pos) (tDT X C G W A) := pw_or1 ha
theorem dw_and {rest : List Expr} (ha : PT X a (tDT X C G W A)) (hb : PW X (.BoolOp .And (b :: rest) pos) (tDT X C G W B)) : PW X (.BoolOp .And (a :: b :: rest) pos) (tDT X C G W (.and A B)) :=
  PW_imp (pw_and ha hb) fun σ H Q ⟨m, ρ, S, ra, re, p⟩ => by
    have p' : Post X.K X.mg (fun c d H' => W c d σ H') relEq m H (asT ((ev C G A ρ S).bind fun x S1 => match truth x S1 with
      | some true => ev C G B ρ S1
      | some false => .ok x S1
      | none => .bad)) Q := p
    rw [asT_and] at p'
    exact ⟨m, ρ, S, ra, re, Post.imp (Post.bind (rel1 := relEq) p') fun k H1 ⟨m1, d, S1, l1, ra1, r1, p1⟩ => by
      have r1' : d = k := r1
      subst r1'
      cases d with
      | true => exact ⟨m1, ρ, S1, ra1, re.mono l1, p1⟩
      | false => exact p1.now ra1 rfl⟩
theorem dw_or {rest : List Expr} (ha : PT X a (tDT X C G W A)) (hb : PW X (.BoolOp .Or (b :: rest) pos) (tDT X C G W B)) : PW X (.BoolOp .Or (a :: b :: rest) pos) (tDT X C G W (.or A B)) :=
  PW_imp (pw_or ha hb) fun σ H Q ⟨m, ρ, S, ra, re, p⟩ => by
    have p' : Post X.K X.mg (fun c d H' => W c d σ H') relEq m H (asT ((ev C G A ρ S).bind fun x S1 => match truth x S1 with
      | some true => .ok x S1
      | some false => ev C G B ρ S1
      | none => .bad)) Q := p
    rw [asT_or] at p'
    exact ⟨m, ρ, S, ra, re, Post.imp (Post.bind (rel1 := relEq) p') fun k H1 ⟨m1, d, S1, l1, ra1, r1, p1⟩ => by
      have r1' : d = k := r1
      subst r1'
      cases d with
      | false => exact ⟨m1, ρ, S1, ra1, re.mono l1, p1⟩
      | true => exact p1.now ra1 rfl⟩
theorem asT_bl {K : PySem.W.Frag} {mg : Str → Option Value} {V' : XK} {m : Mp} {H : Hp} {r : R D} {Q : Bool → Hp → Prop} (h : Post K mg V' relEq m H (asT r) Q) (hb : ∀ d S, r = .ok d S → ∃ k, d = .bl k) :
    Post K mg V' (Rp K mg) m H r (fun v H1 => ∃ k, v = .bl k ∧ Q k H1) := by
  cases r with
  | bad => exact h
  | exc c p S => exact h
  | ok d S =>
    obtain ⟨k, rfl⟩ := hb d S rfl
    intro m' H' v l ra rp
    cases rp
    exact ⟨k, rfl, h m' H' k l ra rfl⟩
theorem dt_cmp2 {op op' : CmpOp} (cx : Ctx X) (ha : PE X a (tD X C G W A)) (hb : PE X b (tD X C G W B)) (hc : PE X c (tD X C G W D')) (hm : lastMarks [op, op'] [b, c] = false := by with_unfolding_all rfl) :
    PT X (.Compare a [op, op'] [b, c] pos) (tDT X C G W (.cmp2 op op' A B D')) :=
  PT_imp (pt_chain (op_cmp cx op) (op_cmp cx op') ha hb hc hm) fun σ H Q ⟨m, ρ, S, ra, re, p⟩ => i_cmp2 ⟨m, ρ, S, ra, re, asT_bl p fun d S' h => bl_cmp2 h⟩
theorem dt_cmp {op : CmpOp} (cx : Ctx X) (ha : PE X a (tD X C G W A)) (hb : PE X b (tD X C G W B)) (hm : behindInMarks op b = false := by rfl) : PT X (.Compare a [op] [b] pos) (tDT X C G W (.cmp op A B)) :=
  PT_imp (pt_cmpR (op_cmp cx op) ha hb hm) fun σ H Q ⟨m, ρ, S, ra, re, p⟩ => ⟨m, ρ, S, ra, re, by
    have p0 : Post X.K X.mg (fun c d H' => W c d σ H') relEq m H (((ev C G A ρ S).bind fun x S1 => (ev C G B ρ S1).bind fun y S2 => R.opt ((cmpD op x y S2).map D.bl) S2).bind fun x S => R.opt (truth x S) S) Q := p
    have assoc : (((ev C G A ρ S).bind fun x S1 => (ev C G B ρ S1).bind fun y S2 => R.opt ((cmpD op x y S2).map D.bl) S2).bind fun x S => R.opt (truth x S) S) =
        (ev C G A ρ S).bind fun x S1 => (ev C G B ρ S1).bind fun y S2 => R.opt (cmpD op x y S2) S2 := by
      cases ev C G A ρ S with
      | bad => rfl
      | exc c p S => rfl
      | ok x S1 =>
        show ((ev C G B ρ S1).bind fun y S2 => R.opt ((cmpD op x y S2).map D.bl) S2).bind (fun x S => R.opt (truth x S) S) = (ev C G B ρ S1).bind fun y S2 => R.opt (cmpD op x y S2) S2
        cases ev C G B ρ S1 with
        | bad => rfl
        | exc c p S => rfl
        | ok y S2 =>
          show (R.opt ((cmpD op x y S2).map D.bl) S2).bind (fun x S => R.opt (truth x S) S) = R.opt (cmpD op x y S2) S2
          cases cmpD op x y S2 <;> rfl
    rw [assoc] at p0
    exact Post.imp (Post.bind p0) fun x H1 ⟨m1, d, S1, l1, ra1, r1, p1⟩ => ⟨m1, ρ, S1, ra1, re.mono l1, Post.imp (Post.bind p1) fun y H2 ⟨m2, d2, S2, l2, ra2, r2, p2⟩ => by
      obtain ⟨k, hk, p3⟩ := post_opt p2
      exact ⟨m2, S2, d, d2, k, ra2, r1.mono l2, r2, hk, k, rfl, p3.now ra2 rfl⟩⟩⟩
theorem de_ife (hc : PT X c (tDT X C G W D')) (ha : PE X a (tD X C G W A)) (hb : PE X b (tD X C G W B)) : PE X (.IfExp c a b pos) (tD X C G W (.ife D' A B)) :=
  PE_imp (pe_ifExp hc ha hb) fun σ H Q ⟨m, ρ, S, ra, re, p⟩ => ⟨m, ρ, S, ra, re, Post.imp (Post.bind (rel1 := relEq) p) fun k H1 ⟨m1, d, S1, l1, ra1, r1, p1⟩ => by
    have r1' : d = k := r1
    subst r1'
    cases d with
    | true => exact ⟨m1, ρ, S1, ra1, re.mono l1, p1⟩
    | false => exact ⟨m1, ρ, S1, ra1, re.mono l1, p1⟩⟩
/-! lists of arguments, slices -/
theorem da_nil : PA X [] (tDs X C G W .nil) := PA_imp pa_nil fun σ H Q ⟨m, ρ, S, ra, re, p⟩ => p.now ra .nil
theorem da_cons {es : List Expr} (ha : PE X e (tD X C G W A)) (hr : PA X es (tDs X C G W B)) (hs : starEach (e :: es) X.env = (false, eval e X.env) :: starEach es X.env := by rfl) : PA X (e :: es) (tDs X C G W (.cons A B)) :=
  PA_imp (pa_cons ha hr hs) fun σ H Q ⟨m, ρ, S, ra, re, p⟩ => ⟨m, ρ, S, ra, re, Post.imp (Post.bind p) fun x H1 ⟨m1, d, S1, l1, ra1, r1, p1⟩ =>
    ⟨m1, ρ, S1, ra1, re.mono l1, Post.imp (Post.bind p1) fun xs H2 ⟨m2, ds, S2, l2, ra2, r2, p2⟩ => p2.now ra2 (.cons (r1.mono l2) r2)⟩⟩
theorem dk_nil : PK X [] (tDs X C G W .nil) := PK_imp pk_nil fun σ H Q ⟨m, ρ, S, ra, re, p⟩ => p.now ra .nil
theorem dk_cons {es : List Keyword} {nm : Option Str} {kpos : Pos} (ha : PE X e (tD X C G W A)) (hr : PK X es (tDs X C G W B)) : PK X (⟨nm, e, kpos⟩ :: es) (tDs X C G W (.cons A B)) :=
  PK_imp (pk_cons ha hr) fun σ H Q ⟨m, ρ, S, ra, re, p⟩ => ⟨m, ρ, S, ra, re, Post.imp (Post.bind p) fun x H1 ⟨m1, d, S1, l1, ra1, r1, p1⟩ =>
    ⟨m1, ρ, S1, ra1, re.mono l1, Post.imp (Post.bind p1) fun xs H2 ⟨m2, ds, S2, l2, ra2, r2, p2⟩ => p2.now ra2 (.cons (r1.mono l2) r2)⟩⟩
theorem dp_none : PO X none (tDp X C G W .nil) := PO_imp po_none fun σ H Q ⟨m, ρ, S, ra, re, p⟩ => p.now ra rfl
theorem dp_some (ha : PE X e (tD X C G W A)) : PO X (some e) (tDp X C G W (.cons A .nil)) :=
  PO_imp (po_some ha) fun σ H Q ⟨m, ρ, S, ra, re, p⟩ => ⟨m, ρ, S, ra, re, Post.imp (asI_rp p) fun x H1 ⟨m1, i, S1, e1, l1, ra1, p1⟩ => ⟨i, e1, p1.now ra1 rfl⟩⟩
theorem de_ix (cx : Ctx X) (ha : PE X a (tD X C G W A)) (hb : PE X b (tD X C G W B)) (hs : PlainIx b := by exact fun _ _ => rfl) : PE X (.Subscript a b pos) (tD X C G W (.ix A B)) :=
  PE_imp (pe_ix (ix_any cx) ha hb hs) fun σ H Q ⟨m, ρ, S, ra, re, p⟩ => ⟨m, ρ, S, ra, re, Post.imp (Post.bind p) fun x H1 ⟨m1, d, S1, l1, ra1, r1, p1⟩ =>
    ⟨m1, ρ, S1, ra1, re.mono l1, Post.imp (Post.bind p1) fun y H2 ⟨m2, d2, S2, l2, ra2, r2, p2⟩ => by
      obtain ⟨z, hz, p3⟩ := post_opt p2
      exact ⟨m2, S2, d, d2, z, ra2, r1.mono l2, r2, hz, fun v rv => p3.now ra2 rv⟩⟩⟩
theorem de_sl {lo hi : Option Expr} {p2 : Pos} (ha : PE X a (tD X C G W A)) (hl : PO X lo (tDp X C G W B)) (hh : PO X hi (tDp X C G W D')) : PE X (.Subscript a (.Slice lo hi none p2) pos) (tD X C G W (.sl A B D')) :=
  PE_imp (pe_slice sl_any ha hl hh) fun σ H Q ⟨m, ρ, S, ra, re, p⟩ => ⟨m, ρ, S, ra, re, Post.imp (Post.bind p) fun x H1 ⟨m1, d, S1, l1, ra1, r1, p1⟩ =>
    ⟨m1, ρ, S1, ra1, re.mono l1, Post.imp (Post.bind (rel1 := relEq) p1) fun o H2 ⟨m2, o', S2, l2, ra2, r2, p2⟩ => by
      have r2' : o' = o := r2
      subst r2'
      exact ⟨m2, ρ, S2, ra2, (re.mono l1).mono l2, Post.imp (Post.bind (rel1 := relEq) p2) fun u H3 ⟨m3, u', S3, l3, ra3, r3, p3⟩ => by
        have r3' : u' = u := r3
        subst r3'
        exact ⟨_, m3, S3, d, ra3, (r1.mono l2).mono l3, p3⟩⟩⟩⟩
theorem de_rev {k : Nat} {p1 p2 p3 : Pos} (ha : PE X a (tD X C G W A)) : PE X (.Subscript a (.Slice none none (some (.UnaryOp .USub (.Constant (.int 1) k p1) p2)) p3) pos) (tD X C G W (.rev A)) :=
  PE_imp (pe_revL ha) fun σ H Q ⟨m, ρ, S, ra, re, p⟩ => ⟨m, ρ, S, ra, re, Post.imp (Post.bind p) fun x H1 ⟨m1, d, S1, l1, ra1, r1, p1⟩ => by
    cases r1 with
    | @loc n q _ t =>
      cases hl : lstAt S1 n with
      | none => simp only [revD, hl] at p1; exact p1.elim
      | some ds =>
        simp only [revD, hl] at p1
        obtain ⟨vs, h1, h2⟩ := ra1.seq t hl
        exact ⟨q, vs, rfl, h1, post_mk ra1 h2.reverse p1⟩
    | _ => exact p1.elim⟩
theorem le1000 {n : Nat} (h : n ≤ 1000) : n ≤ sizeLine := Nat.le_trans h (by decide)
theorem de_tup {es : List Expr} {k : Nat} (h : PA X es (tDs X C G W A)) : PE X (.Tuple es k pos) (tD X C G W (.tup A)) :=
  PE_imp (pe_tup h) fun σ H Q ⟨m, ρ, S, ra, re, p⟩ => ⟨m, ρ, S, ra, re, Post.imp (Post.bind p) fun xs H1 ⟨m1, ds, S1, l1, ra1, r1, p1⟩ => by
    by_cases c : ds.length ≤ 1000
    · rw [if_pos c] at p1
      exact ⟨by rw [r1.length]; exact le1000 c, post_tup ra1 r1 p1⟩
    · rw [if_neg c] at p1
      exact p1.elim⟩
theorem de_lst {es : List Expr} (h : PA X es (tDs X C G W A)) : PE X (.List es pos) (tD X C G W (.lst A)) :=
  PE_imp (pe_lst h) fun σ H Q ⟨m, ρ, S, ra, re, p⟩ => ⟨m, ρ, S, ra, re, Post.imp (Post.bind p) fun xs H1 ⟨m1, ds, S1, l1, ra1, r1, p1⟩ => by
    by_cases c : ds.length ≤ 1000
    · rw [if_pos c] at p1
      exact ⟨by rw [r1.length]; exact le1000 c, post_mk ra1 r1 p1⟩
    · rw [if_neg c] at p1
      exact p1.elim⟩
/-! calls of built-ins -/
theorem de_biB {x : Str} {id : String} {bb : Bi} {es : List Expr} {p : Pos} (cx : Ctx X) (hx : x ∈ bnames) (hc : CallR X (.builtin id) (rBi X.K X.mg bb)) (hg : Gl X x) (hv : bootBuiltins x = some (.builtin id)) (ha : PA X (e :: es) (tDs X C G W A))
    (hn : x ≠ "__name__" := by decide) (hdb : (x == ("__debug__" : Str)) = false := by decide) (he : starEach (e :: es) X.env = (false, eval e X.env) :: starEach es X.env := by rfl) (hpl : (backTo pos (starEach es X.env)).any (·.1) = false := by rfl) :
    PE X (.Call (.Name x p) (e :: es) [] pos) (tD X C G W (.bi bb A)) :=
  PE_imp (pe_callB hc hg (cx.nob x hx) hv ha hn hdb he hpl) fun σ H Q ⟨m, ρ, S, ra, re, p⟩ => ⟨m, ρ, S, ra, re, Post.imp (Post.bind p) fun xs H1 ⟨m1, ds, S1, l1, ra1, r1, p1⟩ => ⟨_, m1, S1, ds, ra1, r1, p1⟩⟩
theorem de_biT {x : Str} {T : String} {bb : Bi} {es : List Expr} {p : Pos} (cx : Ctx X) (hx : x ∈ bnames) (hc : CallR X (.type T) (rBi X.K X.mg bb)) (hg : Gl X x) (hv : bootBuiltins x = some (.type T)) (ha : PA X (e :: es) (tDs X C G W A))
    (hn : x ≠ "__name__" := by decide) (hdb : (x == ("__debug__" : Str)) = false := by decide) (he : starEach (e :: es) X.env = (false, eval e X.env) :: starEach es X.env := by rfl) (hpl : (backTo pos (starEach es X.env)).any (·.1) = false := by rfl) :
    PE X (.Call (.Name x p) (e :: es) [] pos) (tD X C G W (.bi bb A)) :=
  PE_imp (pe_callTy hc hg (cx.nob x hx) hv ha hn hdb he hpl) fun σ H Q ⟨m, ρ, S, ra, re, p⟩ => ⟨m, ρ, S, ra, re, Post.imp (Post.bind p) fun xs H1 ⟨m1, ds, S1, l1, ra1, r1, p1⟩ => ⟨_, m1, S1, ds, ra1, r1, p1⟩⟩
theorem de_dnew : PE X (.Dict [] [] pos) (tD X C G W .dnew) :=
  PE_imp pe_dnewK fun σ H Q ⟨m, ρ, S, ra, re, p⟩ q hq => by
    have p0 : Post X.K X.mg (fun c d H' => W c d σ H') (Rp X.K X.mg) m H (mk (.dic []) S) Q := p
    exact p0 (m ++ [(q, false)]) _ (.ref q) (Le.alloc hq) (ra.allocO hq ⟨[], rfl, upd_same, rfl, .nil⟩) (.loc (ra.at_new q))
/-! ### methods of lists -/
def rMt (K : PySem.W.Frag) (mg : Str → Option Value) (mm : Mt) : V → List V → Hp → VK → Prop := fun x xs H Q => ∃ W m S d es, RelA K mg m H S ∧ Rp K mg m H d x ∧ Rps K mg m H es xs ∧ Post K mg W (Rp K mg) m H (mtD mm d es S) Q
theorem mt_open {K : PySem.W.Frag} {mg : Str → Option Value} {mm : Mt} {x : V} {xs : List V} {H : Hp} {Q : VK} (h : rMt K mg mm x xs H Q) :
    ∃ (m : Mp) (S : Sto) (a : Addr) (ds es : List D) (vs : List V) (r : D) (ys : List D), x = .ref a ∧ H a = some (.lst vs) ∧ RelA K mg m H S ∧ Rps K mg m H ds vs ∧ Rps K mg m H es xs ∧ mtL mm ds es S = some (r, ys) ∧
      ∀ ws v, Rps K mg m H ys ws → Rp K mg m H r v → Q v (upd H a (.lst ws)) := by
  obtain ⟨W, m, S, d, es, ra, rx, rs, p⟩ := h
  cases rx with
  | @loc n a b t =>
    have p1 : Post K mg W (Rp K mg) m H (match S[n]? with
      | some (.lst ds) => mtW n S (mtL mm ds es S)
      | _ => .bad) Q := p
    cases hl : S[n]? with
    | none => rw [hl] at p1; exact p1.elim
    | some so =>
      rw [hl] at p1
      cases so with
      | lst ds =>
        have p2 : Post K mg W (Rp K mg) m H (mtW n S (mtL mm ds es S)) Q := p1
        obtain ⟨vs, h1, h2⟩ := ra.lst t hl
        cases hm : mtL mm ds es S with
        | none => rw [hm] at p2; exact p2.elim
        | some q =>
          rw [hm] at p2
          refine ⟨m, S, a, ds, es, vs, q.1, q.2, rfl, h1, ra, h2, rs, hm, fun ws v r1 r2 => ?_⟩
          have l : Le m m H (upd H a (.lst ws)) := Le.write ra t hl h1
          exact p2 m _ v l (ra.write t hl h1 r1) (r2.mono l)
      | _ => exact p1.elim
  | _ => exact p.elim
theorem rps_take {K : PySem.W.Frag} {mg : Str → Option Value} {m : Mp} {H : Hp} : ∀ {ds : List D} {vs : List V} (n : Nat), Rps K mg m H ds vs → Rps K mg m H (ds.take n) (vs.take n)
  | _, _, 0, _ => .nil
  | _, _, n + 1, .nil => .nil
  | _, _, n + 1, .cons h hs => .cons h (rps_take n hs)
theorem rps_drop {K : PySem.W.Frag} {mg : Str → Option Value} {m : Mp} {H : Hp} : ∀ {ds : List D} {vs : List V} (n : Nat), Rps K mg m H ds vs → Rps K mg m H (ds.drop n) (vs.drop n)
  | _, _, 0, h => h
  | _, _, n + 1, .nil => .nil
  | _, _, n + 1, .cons h hs => rps_drop n hs
theorem rps_erase {K : PySem.W.Frag} {mg : Str → Option Value} {m : Mp} {H : Hp} {ds : List D} {vs : List V} (n : Nat) (h : Rps K mg m H ds vs) : Rps K mg m H (ds.eraseIdx n) (vs.eraseIdx n) := by
  rw [List.eraseIdx_eq_take_drop_succ, List.eraseIdx_eq_take_drop_succ]
  exact (rps_take n h).append (rps_drop _ h)
theorem rps_rev {K : PySem.W.Frag} {mg : Str → Option Value} {m : Mp} {H : Hp} : ∀ {ds : List D} {vs : List V}, Rps K mg m H ds vs → Rps K mg m H ds.reverse vs.reverse
  | _, _, .nil => .nil
  | _, _, .cons h hs => by
    rw [List.reverse_cons, List.reverse_cons]
    exact (rps_rev hs).append (.cons h .nil)
/-- a method of lists: its name, its id -/
structure MtI (X : Cx) (mm : Mt) (name : Str) : Prop where
  ex : ∃ id : String, Slot "list" name id ∧ typeOf (.builtin id) = pure (.type "method_descriptor") ∧ MtR X id (rMt X.K X.mg mm)
theorem mi_append : MtI X .append "append" := ⟨_, PySem.F.slot_list_append, PySem.F.type_list_append, fun pins s σ H x xs v us Q I rx rv h => by
  obtain ⟨m, S, a, ds, es, vs, r, ys, rfl, h1, ra, r1, r2, hm, q⟩ := mt_open h
  match es, r2, hm with
  | [d], r2, hm =>
    obtain ⟨y, rfl, ry⟩ := rps1 r2
    have hm' : (if ds.length < sizeLine then some (D.non, ds ++ [d]) else none) = some (r, ys) := hm
    by_cases c : ds.length < sizeLine
    · rw [if_pos c] at hm'
      cases hm'
      exact mt_append pins s σ H _ _ v us Q I rx rv ⟨a, vs, y, rfl, rfl, h1, by rw [r1.length]; exact c, q _ _ (r1.append (.cons ry .nil)) .non⟩
    · rw [if_neg c] at hm'
      cases hm'
  | [], _, hm => cases hm
  | _ :: _ :: _, _, hm => cases hm⟩
theorem mi_pop : MtI X .pop "pop" := ⟨_, PySem.F.slot_list_pop, PySem.F.type_list_pop, fun pins s σ H x xs v us Q I rx rv h => by
  obtain ⟨m, S, a, ds, es, vs, r, ys, rfl, h1, ra, r1, r2, hm, q⟩ := mt_open h
  match es, r2, hm with
  | [], .nil, hm =>
    have hm' : ((ds[ds.length - 1]?).map fun y => (y, ds.dropLast)) = some (r, ys) := hm
    cases hy : ds[ds.length - 1]? with
    | none => rw [hy] at hm'; cases hm'
    | some y =>
      rw [hy] at hm'
      cases hm'
      obtain ⟨w, g1, g2⟩ := r1.get hy
      refine mt_pop pins s σ H _ _ v us Q I rx rv ⟨a, vs, w, rfl, rfl, h1, by rw [r1.length]; exact g1, q _ _ ?_ g2⟩
      rw [List.dropLast_eq_take, List.dropLast_eq_take, r1.length]
      exact rps_take _ r1
  | _ :: _, _, hm => cases hm⟩
theorem mi_popAt : MtI X .popAt "pop" := ⟨_, PySem.F.slot_list_pop, PySem.F.type_list_pop, fun pins s σ H x xs v us Q I rx rv h => by
  obtain ⟨m, S, a, ds, es, vs, r, ys, rfl, h1, ra, r1, r2, hm, q⟩ := mt_open h
  match es, r2, hm with
  | [.int i], .cons (.int _) .nil, hm =>
    have hm' : (if decide (-(2 ^ 63) ≤ i) && decide (i < 2 ^ 63) then (seqIndex? i ds.length).bind fun k => (ds[k]?).map fun y => (y, ds.eraseIdx k) else none) = some (r, ys) := hm
    by_cases c : (decide (-(2 ^ 63) ≤ i) && decide (i < 2 ^ 63)) = true
    · rw [if_pos c] at hm'
      simp only [Bool.and_eq_true, decide_eq_true_eq] at c
      cases hk : seqIndex? i ds.length with
      | none => rw [hk] at hm'; cases hm'
      | some k =>
        rw [hk] at hm'
        have hm2 : ((ds[k]?).map fun y => (y, ds.eraseIdx k)) = some (r, ys) := hm'
        cases hy : ds[k]? with
        | none => rw [hy] at hm2; cases hm2
        | some y =>
          rw [hy] at hm2
          cases hm2
          obtain ⟨w, g1, g2⟩ := r1.get hy
          exact mt_popAt pins s σ H _ _ v us Q I rx rv ⟨a, vs, i, k, w, rfl, rfl, h1, c.1, c.2, by rw [r1.length]; exact hk, g1, q _ _ (rps_erase k r1) g2⟩
    · rw [if_neg c] at hm'
      cases hm'
  | [], _, hm => cases hm
  | .non :: _, _, hm => cases hm
  | .bl _ :: _, _, hm => cases hm
  | .str _ :: _, _, hm => cases hm
  | .tup _ :: _, _, hm => cases hm
  | .loc _ :: _, _, hm => cases hm
  | .ty _ :: _, _, hm => cases hm
  | .fn _ :: _, _, hm => cases hm
  | .int _ :: _ :: _, _, hm => cases hm⟩
theorem mi_insert : MtI X .insert "insert" := ⟨_, PySem.F.slot_list_insert, PySem.F.type_list_insert, fun pins s σ H x xs v us Q I rx rv h => by
  obtain ⟨m, S, a, ds, es, vs, r, ys, rfl, h1, ra, r1, r2, hm, q⟩ := mt_open h
  match es, r2, hm with
  | [.int i, y], .cons (.int _) (.cons ry .nil), hm =>
    rename_i vy
    have hm' : (if decide (ds.length < sizeLine) && (decide (0 ≤ i) && decide (i < 2 ^ 63)) then some (D.non, ds.take i.toNat ++ [y] ++ ds.drop i.toNat) else none) = some (r, ys) := hm
    by_cases c : (decide (ds.length < sizeLine) && (decide (0 ≤ i) && decide (i < 2 ^ 63))) = true
    · rw [if_pos c] at hm'
      cases hm'
      simp only [Bool.and_eq_true, decide_eq_true_eq] at c
      exact mt_insert pins s σ H _ _ v us Q I rx rv ⟨a, vs, i, vy, rfl, rfl, h1, by rw [r1.length]; exact c.1, c.2.1, c.2.2, q _ _ (((rps_take _ r1).append (.cons ry .nil)).append (rps_drop _ r1)) .non⟩
    · rw [if_neg c] at hm'
      cases hm'
  | [], _, hm => cases hm
  | .non :: _, _, hm => cases hm
  | .bl _ :: _, _, hm => cases hm
  | .str _ :: _, _, hm => cases hm
  | .tup _ :: _, _, hm => cases hm
  | .loc _ :: _, _, hm => cases hm
  | .ty _ :: _, _, hm => cases hm
  | .fn _ :: _, _, hm => cases hm
  | [.int _], _, hm => cases hm
  | .int _ :: _ :: _ :: _, _, hm => cases hm⟩
theorem mi_reverse : MtI X .reverse "reverse" := ⟨_, PySem.F.slot_list_reverse, PySem.F.type_list_reverse, fun pins s σ H x xs v us Q I rx rv h => by
  obtain ⟨m, S, a, ds, es, vs, r, ys, rfl, h1, ra, r1, r2, hm, q⟩ := mt_open h
  match es, r2, hm with
  | [], .nil, hm =>
    cases hm
    exact mt_reverse pins s σ H _ _ v us Q I rx rv ⟨a, vs, rfl, rfl, h1, q _ _ (rps_rev r1) .non⟩
  | _ :: _, _, hm => cases hm⟩
theorem mi_extend : MtI X .extend "extend" := ⟨_, PySem.F.slot_list_extend, PySem.F.type_list_extend, fun pins s σ H x xs v us Q I rx rv h => by
  obtain ⟨m, S, a, ds, es, vs, r, ys, rfl, h1, ra, r1, r2, hm, q⟩ := mt_open h
  match es, r2, hm with
  | [.loc k], .cons (.loc t) .nil, hm =>
    rename_i b bb
    have hm' : (match S[k]? with
      | some (.lst zs) => if ds.length + zs.length ≤ sizeLine then some (D.non, ds ++ zs) else none
      | _ => none) = some (r, ys) := hm
    cases hk : S[k]? with
    | none => rw [hk] at hm'; cases hm'
    | some so =>
      rw [hk] at hm'
      cases so with
      | lst zs =>
        have hm2 : (if ds.length + zs.length ≤ sizeLine then some (D.non, ds ++ zs) else none) = some (r, ys) := hm'
        obtain ⟨ws, g1, g2⟩ := ra.lst t hk
        by_cases c : ds.length + zs.length ≤ sizeLine
        · rw [if_pos c] at hm2
          cases hm2
          exact mt_extend pins s σ H _ _ v us Q I rx rv ⟨a, b, vs, ws, rfl, rfl, h1, g1, by rw [r1.length, g2.length]; exact c, q _ _ (r1.append g2) .non⟩
        · rw [if_neg c] at hm2
          cases hm2
      | _ => cases hm'
  | [], _, hm => cases hm
  | .non :: _, _, hm => cases hm
  | .bl _ :: _, _, hm => cases hm
  | .str _ :: _, _, hm => cases hm
  | .tup _ :: _, _, hm => cases hm
  | .int _ :: _, _, hm => cases hm
  | .ty _ :: _, _, hm => cases hm
  | .fn _ :: _, _, hm => cases hm
  | .loc _ :: _ :: _, _, hm => cases hm⟩
/-- o.name(e, ..) of a list -/
theorem de_mt {mm : Mt} {name : Str} {o : Expr} {es : List Expr} {apos cpos : Pos} (hi : MtI X mm name) (ho : PE X o (tD X C G W A)) (ha : PA X (e :: es) (tDs X C G W B))
    (hbase : attributeBase o name X.env (eval o X.env) = eval o X.env := by rfl)
    (hfew : ((backTo cpos (starEach (e :: es) X.env)).all (fun x => !x.1) && (backToKw cpos (keywordEach [] X.env)).all (fun x => x.1.isSome)
      && decide ((e :: es).length + ([] : List Keyword).length + (if ([] : List Keyword).isEmpty then 0 else 1) < 30)) = true := by rfl)
    (hline : (apos.endLine == cpos.line) = true := by rfl) (hs : starEach (e :: es) X.env = (false, eval e X.env) :: starEach es X.env := by rfl) (hplain : (backTo cpos (starEach es X.env)).any (·.1) = false := by rfl) :
    PE X (.Call (.Attribute o name apos) (e :: es) [] cpos) (tD X C G W (.mt mm A B)) := by
  obtain ⟨id, hsl, hty, hr⟩ := hi.ex
  exact PE_imp (pe_bm PySem.F.plainAttrs_list hsl hty hr ho ha hbase hfew hline hs hplain) fun σ H Q ⟨m, ρ, S, ra, re, p⟩ =>
    ⟨m, ρ, S, ra, re, Post.imp (Post.bind p) fun x H1 ⟨m1, d, S1, l1, ra1, r1, p1⟩ => by
      by_cases c : isLst d S1 = true
      · rw [if_pos c] at p1
        cases r1 with
        | @loc n q _ t =>
          have c' : (lstAt S1 n).isSome = true := c
          obtain ⟨xs0, hx0⟩ := Option.isSome_iff_exists.mp c'
          obtain ⟨vs0, h1, h2⟩ := ra1.seq t hx0
          exact ⟨.inl ⟨rfl, vs0, h1⟩, m1, ρ, S1, ra1, re.mono l1, Post.imp (Post.bind p1) fun ys H2 ⟨m2, ds, S2, l2, ra2, r2, p2⟩ => ⟨_, m2, S2, .loc n, ds, ra2, (Rp.loc t).mono l2, r2, p2⟩⟩
        | _ => cases c
      · rw [if_neg c] at p1
        exact p1.elim⟩
theorem de_mt0 {mm : Mt} {name : Str} {o : Expr} {apos cpos : Pos} (hi : MtI X mm name) (ho : PE X o (tD X C G W A))
    (hbase : attributeBase o name X.env (eval o X.env) = eval o X.env := by rfl) (hline : (apos.endLine == cpos.line) = true := by rfl) :
    PE X (.Call (.Attribute o name apos) [] [] cpos) (tD X C G W (.mt mm A .nil)) := by
  obtain ⟨id, hsl, hty, hr⟩ := hi.ex
  exact PE_imp (pe_bm0 PySem.F.plainAttrs_list hsl hty hr ho hbase hline) fun σ H Q ⟨m, ρ, S, ra, re, p⟩ =>
    ⟨m, ρ, S, ra, re, Post.imp (Post.bind p) fun x H1 ⟨m1, d, S1, l1, ra1, r1, p1⟩ => by
      by_cases c : isLst d S1 = true
      · rw [if_pos c] at p1
        cases r1 with
        | @loc n q _ t =>
          have c' : (lstAt S1 n).isSome = true := c
          obtain ⟨xs0, hx0⟩ := Option.isSome_iff_exists.mp c'
          obtain ⟨vs0, h1, h2⟩ := ra1.seq t hx0
          exact ⟨.inl ⟨rfl, vs0, h1⟩, _, m1, S1, .loc n, [], ra1, .loc t, .nil, p1⟩
        | _ => cases c
      · rw [if_neg c] at p1
        exact p1.elim⟩
end
end CC

namespace CC
open PySem PySem.Spec PyProof.Rows L2
/-! ### targets -/
mutual
def tslots : Xp → List Nat
  | .var i => [i]
  | .tup t => tslotsL t
  | _ => []
def tslotsL : Xp → List Nat
  | .cons a b => tslots a ++ tslotsL b
  | _ => []
end
def Wp (sl : List Nat) (σ σ' : L2.St) : Prop := ∀ vs : List Nat, (∀ i ∈ sl, i ∈ vs) → wipe σ' vs = wipe σ vs
def gT (K : PySem.W.Frag) (mg : Str → Option Value) (t : Xp) : TG := fun v σ H Q => ∃ m ρ S d ρ', RelA K mg m H S ∧ RelE K mg m H σ ρ ∧ Rp K mg m H d v ∧ bindT t d ρ = some ρ' ∧ ∀ σ', RelE K mg m H σ' ρ' → Wp (tslots t) σ σ' → Q σ' H
def gTs (K : PySem.W.Frag) (mg : Str → Option Value) (t : Xp) : TGs := fun vs σ H Q => ∃ m ρ S ds ρ', RelA K mg m H S ∧ RelE K mg m H σ ρ ∧ Rps K mg m H ds vs ∧ bindL t ds ρ = some ρ' ∧ ∀ σ', RelE K mg m H σ' ρ' → Wp (tslotsL t) σ σ' → Q σ' H
theorem wipe_mem {σ : L2.St} {i : Nat} : ∀ {vs : List Nat}, i ∈ vs → ∀ x, wipe (σ.set i x) vs = wipe σ vs
  | v :: vs, h, x => by
    unfold wipe
    by_cases e : i ∈ vs
    · rw [wipe_mem e x]
    · have hv : i = v := by
        rcases List.mem_cons.mp h with q | q
        · exact q
        · exact absurd q e
      subst hv
      have : ∀ (ws : List Nat), wipe (σ.set i x) ws = (wipe σ ws).set i x ∨ i ∈ ws := by
        intro ws
        induction ws with
        | nil => exact .inl rfl
        | cons w ws ih =>
          by_cases q : i = w
          · exact .inr (by rw [q]; exact List.mem_cons_self)
          · rcases ih with ih | ih
            · refine .inl ?_
              unfold wipe
              rw [ih]
              exact List.set_comm _ _ q
            · exact .inr (List.mem_cons_of_mem _ ih)
      rcases this vs with q | q
      · rw [q, List.set_set]
      · exact absurd q e
theorem PG_imp {X : Cx} {tg : Expr} {t t' : TG} (h : PG X tg t) (i : ∀ v σ H Q, t' v σ H Q → t v σ H Q) : PG X tg t' := ⟨fun pins s σ H v u Q I r q => h.run pins s σ H v u Q I r (i v σ H Q q)⟩
theorem PGs_imp {X : Cx} {tg : List Expr} {t t' : TGs} (h : PGs X tg t) (i : ∀ v σ H Q, t' v σ H Q → t v σ H Q) : PGs X tg t' := ⟨fun pins s σ H v u Q I r q => h.run pins s σ H v u Q I r (i v σ H Q q)⟩
section
variable {X : Cx} {C : CallSem} {G : Nat → Option D} {W : WX} {a b c e : Expr} {A B D' : Xp} {pos : Pos}
theorem dg_name {i : Nat} {x : Str} (h : PG X (.Name x pos) (gName i)) : PG X (.Name x pos) (gT X.K X.mg (.var i)) :=
  PG_imp h fun v σ H Q ⟨m, ρ, S, d, ρ', ra, re, r, hb, q⟩ => by
    have hb' : some (ρ.set i (some d)) = some ρ' := hb
    cases hb'
    exact q _ (re.set r) fun vs hv => wipe_mem (hv i List.mem_cons_self) _
theorem dgs_nil : PGs X [] (gTs X.K X.mg .nil) := PGs_imp pgs_nil fun vs σ H Q ⟨m, ρ, S, ds, ρ', ra, re, r, hb, q⟩ => by
  cases ds with
  | nil =>
    have hb' : some ρ = some ρ' := hb
    cases hb'
    cases r
    exact ⟨rfl, q σ re fun _ _ => rfl⟩
  | cons _ _ => cases hb
theorem dgs_cons {es : List Expr} (h1 : PG X e (gT X.K X.mg A)) (h2 : PGs X es (gTs X.K X.mg B)) (hs : (assignEach (e :: es) X.env).map (·.2) = assign e X.env :: (assignEach es X.env).map (·.2) := by rfl) :
    PGs X (e :: es) (gTs X.K X.mg (.cons A B)) := PGs_imp (pgs_cons h1 h2 hs) fun vs σ H Q ⟨m, ρ, S, ds, ρ', ra, re, r, hb, q⟩ => by
  cases ds with
  | nil => cases hb
  | cons d ds =>
    cases r with
    | cons r1 r2 =>
      have hb' : ((bindT A d ρ).bind fun ρ1 => bindL B ds ρ1) = some ρ' := hb
      cases h : bindT A d ρ with
      | none => rw [h] at hb'; cases hb'
      | some ρ1 =>
        rw [h] at hb'
        refine ⟨_, _, rfl, m, ρ, S, d, ρ1, ra, re, r1, h, fun σ1 re1 w1 => ?_⟩
        refine ⟨m, ρ1, S, ds, ρ', ra, re1, r2, hb', fun σ2 re2 w2 => ?_⟩
        exact q σ2 re2 fun vs hv => (w2 vs fun i hi => hv i (List.mem_append_right _ hi)).trans (w1 vs fun i hi => hv i (List.mem_append_left _ hi))
theorem dg_tup {es : List Expr} {k n : Nat} (hc : X.calm = true) (h : PGs X es (gTs X.K X.mg A)) (hn : (assignEach es X.env).length = n := by rfl) (hst : (assignEach es X.env).findIdx? (·.1) = none := by rfl)
    (hl : ∀ ds ρ ρ', bindL A ds ρ = some ρ' → ds.length = n := by intro ds ρ ρ' z; exact bindL_len z) : PG X (.Tuple es k pos) (gT X.K X.mg (.tup A)) :=
  PG_imp (pg_tup hc h hn hst) fun v σ H Q ⟨m, ρ, S, d, ρ', ra, re, r, hb, q⟩ => by
    cases r with
    | @tup p vs ds t hs =>
      have hb' : bindL A ds ρ = some ρ' := hb
      exact ⟨p, vs, rfl, t.t, hs.length.trans (hl ds ρ ρ' hb'), m, ρ, S, ds, ρ', ra, re, hs, hb', fun σ' re' w => q σ' re' w⟩
    | _ => cases hb
end
def lenX : Xp → Nat
  | .cons _ b => lenX b + 1
  | _ => 0
theorem bindL_len : ∀ {A : Xp} {ds : List D} {ρ ρ' : Env}, bindL A ds ρ = some ρ' → ds.length = lenX A
  | .nil, [], _, _, _ => rfl
  | .cons a b, d :: ds, ρ, ρ', h => by
    have h' : ((bindT a d ρ).bind fun ρ1 => bindL b ds ρ1) = some ρ' := h
    cases q : bindT a d ρ with
    | none => rw [q] at h'; cases h'
    | some ρ1 =>
      rw [q] at h'
      show ds.length + 1 = lenX b + 1
      rw [bindL_len (A := b) h']
  | .nil, _ :: _, _, _, h => by cases h
  | .cons _ _, [], _, _, h => by cases h
/-! ### what is walked -/
section
variable {K : PySem.W.Frag} {mg : Str → Option Value} {m0 : Mp} {H0 : Hp}
theorem src_lst {n : Nat} {a : Addr} {b : Bool} (t : m0[n]? = some (a, b)) : SrcOk K mg m0 H0 (.lst n) (Itl K a) := fun m H S i l ra => by
  have t' := l.pre _ _ t
  refine ⟨fun h => ?_, fun d h => ?_⟩
  · have h' : (lstAt S n).map (fun ds => ds[i]?) = some none := h
    cases q : lstAt S n with
    | none => rw [q] at h'; cases h'
    | some ds =>
      rw [q] at h'
      obtain ⟨vs, h1, h2⟩ := ra.seq t' q
      have h3 : ds[i]? = none := Option.some.inj h'
      exact ⟨vs, h1, by rw [h2.length]; exact List.getElem?_eq_none_iff.mp h3⟩
  · have h' : (lstAt S n).map (fun ds => ds[i]?) = some (some d) := h
    cases q : lstAt S n with
    | none => rw [q] at h'; cases h'
    | some ds =>
      rw [q] at h'
      obtain ⟨vs, h1, h2⟩ := ra.seq t' q
      have h3 : ds[i]? = some d := Option.some.inj h'
      obtain ⟨v, h4, h5⟩ := h2.get h3
      refine ⟨⟨vs, v, h1, h4⟩, fun x H' ⟨e, f⟩ => ?_⟩
      subst e
      have : x = v := Option.some.inj ((f vs h1).symm.trans h4)
      subst this
      exact ⟨Le.refl _ _, ra, h5⟩
theorem src_tup {a : Addr} {vs : List V} {ds : List D} (t : SqU K H0 a vs) (hs : Rps K mg m0 H0 ds vs) : SrcOk K mg m0 H0 (.ds ds) (Itt K a) := fun m H S i l ra => by
  have t' : SqT K H a vs := (sqT_le l t).t
  have hs' := hs.mono l
  refine ⟨fun h => ?_, fun d h => ?_⟩
  · have h' : ds[i]? = none := Option.some.inj h
    exact ⟨vs, t', by rw [hs'.length]; exact List.getElem?_eq_none_iff.mp h'⟩
  · have h' : ds[i]? = some d := Option.some.inj h
    obtain ⟨v, h4, h5⟩ := hs'.get h'
    refine ⟨⟨vs, v, t', h4⟩, fun x H' ⟨e, f⟩ => ?_⟩
    subst e
    have : x = v := Option.some.inj ((f vs t').symm.trans h4)
    subst this
    exact ⟨Le.refl _ _, ra, h5⟩
theorem src_str {z : Str} : SrcOk K mg m0 H0 (.ds (z.cps.toList.map fun c => .str ⟨#[c]⟩)) (Its z) := fun m H S i l ra => by
  have g : (z.cps.toList.map fun c => D.str ⟨#[c]⟩)[i]? = (z.cps[i]?).map fun c => D.str ⟨#[c]⟩ := by
    rw [List.getElem?_map, Array.getElem?_toList]
  refine ⟨fun h => ?_, fun d h => ?_⟩
  · have h' : (z.cps.toList.map fun c => D.str ⟨#[c]⟩)[i]? = none := Option.some.inj h
    rw [g] at h'
    exact Array.getElem?_eq_none_iff.mp (Option.map_eq_none_iff.mp h')
  · have h' : (z.cps.toList.map fun c => D.str ⟨#[c]⟩)[i]? = some d := Option.some.inj h
    rw [g] at h'
    cases q : z.cps[i]? with
    | none => rw [q] at h'; cases h'
    | some c =>
      rw [q] at h'
      cases h'
      refine ⟨(Array.getElem?_eq_some_iff.mp q).1, fun x H' ⟨e, c', hc, hx⟩ => ?_⟩
      subst e
      rw [q] at hc
      cases hc
      subst hx
      exact ⟨Le.refl _ _, ra, .str _⟩
theorem rangeD_get {lo : Int} {n i : Nat} : (rangeD lo n)[i]? = if i < n then some (.int (lo + (i : Nat))) else none := by
  unfold rangeD
  rw [List.getElem?_map]
  by_cases h : i < n
  · rw [List.getElem?_range h, if_pos h]
    rfl
  · rw [if_neg h, List.getElem?_eq_none (by simpa using h)]
    rfl
theorem src_rng {lo : Int} {n : Nat} : SrcOk K mg m0 H0 (.ds (rangeD lo n)) (Itr lo n) := fun m H S i l ra => by
  refine ⟨fun h => ?_, fun d h => ?_⟩
  · have h' : (rangeD lo n)[i]? = none := Option.some.inj h
    rw [rangeD_get] at h'
    by_cases c : i < n
    · rw [if_pos c] at h'; cases h'
    · exact Nat.le_of_not_lt c
  · have h' : (rangeD lo n)[i]? = some d := Option.some.inj h
    rw [rangeD_get] at h'
    by_cases c : i < n
    · rw [if_pos c] at h'
      cases h'
      refine ⟨c, fun x H' ⟨e, f⟩ => ?_⟩
      subst e
      subst f
      exact ⟨Le.refl _ _, ra, .int _⟩
    · rw [if_neg c] at h'; cases h'
theorem pair_new {m : Mp} {H : Hp} {S : Sto} {T : Addr} {x y : V} {d e : D} (ra : RelA K mg m H S) (hT : H T = none) (rx : Rp K mg m H d x) (ry : Rp K mg m H e y) :
    Le m m H (upd H T (.tup [x, y])) ∧ RelA K mg m (upd H T (.tup [x, y])) S ∧ Rp K mg m (upd H T (.tup [x, y])) (.tup [d, e]) (.ref T) :=
  ⟨Le.new hT, ra.new hT, .tup (.inl upd_same) (.cons (rx.mono (Le.new hT)) (.cons (ry.mono (Le.new hT)) .nil))⟩
theorem src_zip {n k : Nat} {a a' : Addr} {b b' : Bool} (t : m0[n]? = some (a, b)) (u : m0[k]? = some (a', b')) : SrcOk K mg m0 H0 (.zip n k) (Itz K a a') := fun m H S i l ra => by
  have t' := l.pre _ _ t
  have u' := l.pre _ _ u
  have key : ∀ o, (Src.zip n k).get i S = some o → ∃ ds es vs ws, SqL K H a vs ∧ SqL K H a' ws ∧ Rps K mg m H ds vs ∧ Rps K mg m H es ws ∧ o = (ds[i]?.bind fun x => es[i]?.map fun y => D.tup [x, y]) := fun o h => by
    have h' : ((lstAt S n).bind fun a => (lstAt S k).map fun b => a[i]?.bind fun x => b[i]?.map fun y => D.tup [x, y]) = some o := h
    cases q : lstAt S n with
    | none => rw [q] at h'; cases h'
    | some ds =>
      cases q2 : lstAt S k with
      | none => rw [q, q2] at h'; cases h'
      | some es =>
        rw [q, q2] at h'
        obtain ⟨vs, h1, h2⟩ := ra.seq t' q
        obtain ⟨ws, h3, h4⟩ := ra.seq u' q2
        exact ⟨ds, es, vs, ws, h1, h3, h2, h4, (Option.some.inj h').symm⟩
  refine ⟨fun h => ?_, fun d h => ?_⟩
  · obtain ⟨ds, es, vs, ws, h1, h2, h3, h4, e⟩ := key none h
    refine ⟨vs, ws, h1, h2, ?_⟩
    rw [h3.length, h4.length]
    cases q : ds[i]? with
    | none => exact .inl (List.getElem?_eq_none_iff.mp q)
    | some x =>
      cases q2 : es[i]? with
      | none => exact .inr (List.getElem?_eq_none_iff.mp q2)
      | some y => rw [q, q2] at e; cases e
  · obtain ⟨ds, es, vs, ws, h1, h2, h3, h4, e⟩ := key (some d) h
    cases q : ds[i]? with
    | none => rw [q] at e; cases e
    | some x =>
      cases q2 : es[i]? with
      | none => rw [q, q2] at e; cases e
      | some y =>
        rw [q, q2] at e
        cases e
        obtain ⟨v, g1, r1⟩ := h3.get q
        obtain ⟨w, g2, r2⟩ := h4.get q2
        refine ⟨⟨vs, ws, v, w, h1, h2, g1, g2⟩, fun z H' ⟨T, v', w', e1, hT, e2, f1, f2⟩ => ?_⟩
        have ev : v' = v := Option.some.inj ((f1 vs h1).symm.trans g1)
        have ew : w' = w := Option.some.inj ((f2 ws h2).symm.trans g2)
        subst ev ew e1 e2
        exact pair_new ra hT r1 r2
theorem src_zipT {a a' : Addr} {vs ws : List V} {ds es : List D} (t : SqU K H0 a vs) (hs : Rps K mg m0 H0 ds vs) (u : SqU K H0 a' ws) (hs2 : Rps K mg m0 H0 es ws) :
    SrcOk K mg m0 H0 (.ds ((ds.zip es).map fun p => .tup [p.1, p.2])) (RZ.ItzT K a a') := fun m H S i l ra => by
  have t' : SqT K H a vs := (sqT_le l t).t
  have u' : SqT K H a' ws := (sqT_le l u).t
  have h3 := hs.mono l
  have h4 := hs2.mono l
  refine ⟨fun h => ?_, fun d h => ?_⟩
  · have h' : ((ds.zip es).map fun p => D.tup [p.1, p.2])[i]? = none := Option.some.inj h
    have h5 := List.getElem?_eq_none_iff.mp h'
    rw [List.length_map, List.length_zip] at h5
    refine ⟨vs, ws, t', u', ?_⟩
    rw [h3.length, h4.length]
    omega
  · have h' : ((ds.zip es).map fun p => D.tup [p.1, p.2])[i]? = some d := Option.some.inj h
    rw [List.getElem?_map] at h'
    cases q0 : (ds.zip es)[i]? with
    | none => rw [q0] at h'; cases h'
    | some p =>
      rw [q0] at h'
      cases h'
      obtain ⟨x, y⟩ := p
      obtain ⟨q, q2⟩ := List.getElem?_zip_eq_some.mp q0
      obtain ⟨v, g1, r1⟩ := h3.get q
      obtain ⟨w, g2, r2⟩ := h4.get q2
      refine ⟨⟨vs, ws, v, w, t', u', g1, g2⟩, fun z H' ⟨T, v', w', e1, hT, e2, f1, f2⟩ => ?_⟩
      have ev : v' = v := Option.some.inj ((f1 vs t').symm.trans g1)
      have ew : w' = w := Option.some.inj ((f2 ws u').symm.trans g2)
      subst ev ew e1 e2
      exact pair_new ra hT r1 r2
theorem src_enum {n : Nat} {a : Addr} {b : Bool} (t : m0[n]? = some (a, b)) : SrcOk K mg m0 H0 (.enum n) (Ite K a) := fun m H S i l ra => by
  have t' := l.pre _ _ t
  refine ⟨fun h => ?_, fun d h => ?_⟩
  · have h' : (lstAt S n).map (fun ds => ds[i]?.map fun x => D.tup [.int (i : Nat), x]) = some none := h
    cases q : lstAt S n with
    | none => rw [q] at h'; cases h'
    | some ds =>
      rw [q] at h'
      obtain ⟨vs, h1, h2⟩ := ra.seq t' q
      have h3 : (ds[i]?.map fun x => D.tup [.int (i : Nat), x]) = none := Option.some.inj h'
      refine ⟨vs, h1, by rw [h2.length]; exact List.getElem?_eq_none_iff.mp (Option.map_eq_none_iff.mp h3)⟩
  · have h' : (lstAt S n).map (fun ds => ds[i]?.map fun x => D.tup [.int (i : Nat), x]) = some (some d) := h
    cases q : lstAt S n with
    | none => rw [q] at h'; cases h'
    | some ds =>
      rw [q] at h'
      obtain ⟨vs, h1, h2⟩ := ra.seq t' q
      have h3 : (ds[i]?.map fun x => D.tup [.int (i : Nat), x]) = some d := Option.some.inj h'
      cases q2 : ds[i]? with
      | none => rw [q2] at h3; cases h3
      | some y =>
        rw [q2] at h3
        cases h3
        obtain ⟨v, h4, h5⟩ := h2.get q2
        refine ⟨⟨vs, v, h1, h4⟩, fun x H' ⟨T, x', e1, hT, e2, f⟩ => ?_⟩
        have : x' = v := Option.some.inj ((f vs h1).symm.trans h4)
        subst this e1 e2
        exact pair_new ra hT (.int _) h5
end
section
variable {X : Cx} {C : CallSem} {G : Nat → Option D} {W : WX} {a b c e tg : Expr} {A B D' : Xp} {pos : Pos}
theorem di_itr (ha : PE X a (tD X C G W A)) : PI X tg a (tDi X C G W (.itr A)) := by
  refine ⟨fun pins s σ H R' I ⟨m, ρ, S, ra, re, p⟩ => ?_⟩
  have p0 : Post X.K X.mg (fun c d H' => W c d σ H') (SrcOk X.K X.mg) m H ((ev C G A ρ S).bind fun x S1 => R.opt (srcOf x S1) S1) R' := p
  cases q : ev C G A ρ S with
  | bad => rw [q] at p0; exact p0.elim
  | exc cc pp SS =>
    rw [q] at p0
    exact (pi_list ha).run pins s σ H R' I ⟨m, ρ, S, ra, re, by rw [q]; exact p0⟩
  | ok d S1 =>
    rw [q] at p0
    have p1 : Post X.K X.mg (fun c d H' => W c d σ H') (SrcOk X.K X.mg) m H (R.opt (srcOf d S1) S1) R' := p0
    obtain ⟨src, hsrc, p2⟩ := post_opt p1
    cases d with
    | tup ds =>
      cases hsrc
      refine (pi_tup ha).run pins s σ H R' I ⟨m, ρ, S, ra, re, ?_⟩
      rw [q]
      intro m' H' v l ra' rp
      cases rp with
      | tup t hs => exact ⟨_, rfl, ⟨_, t.t⟩, p2 m' H' _ l ra' (src_tup t hs)⟩
    | loc n =>
      have hsrc' : (lstAt S1 n).map (fun _ => Src.lst n) = some src := hsrc
      cases q2 : lstAt S1 n with
      | none => rw [q2] at hsrc'; cases hsrc'
      | some ds =>
        rw [q2] at hsrc'
        cases hsrc'
        refine (pi_list ha).run pins s σ H R' I ⟨m, ρ, S, ra, re, ?_⟩
        rw [q]
        intro m' H' v l ra' rp
        cases rp with
        | loc t =>
          obtain ⟨vs, h1, h2⟩ := ra'.seq t q2
          exact ⟨_, rfl, ⟨vs, h1⟩, p2 m' H' _ l ra' (src_lst t)⟩
    | str z =>
      cases hsrc
      refine (pi_str ha).run pins s σ H R' I ⟨m, ρ, S, ra, re, ?_⟩
      rw [q]
      intro m' H' v l ra' rp
      cases rp
      exact ⟨z, rfl, p2 m' H' _ l ra' src_str⟩
    | _ => cases hsrc
theorem small_62 {i : Int} (h : small62 i = true) : -(2 ^ 62) ≤ i ∧ i < 2 ^ 62 := by
  obtain ⟨h1, h2⟩ := Bool.and_eq_true_iff.mp h
  exact ⟨of_decide_eq_true h1, of_decide_eq_true h2⟩
theorem di_rng1 {p : Pos} (cx : Ctx X) (hg : Gl X "range") (ha : PE X a (tD X C G W A)) (hs : starEach [a] X.env = [(false, eval a X.env)] := by rfl) : PI X tg (.Call (.Name "range" p) [a] [] pos) (tDi X C G W (.rng1 A)) :=
  PI_imp (pi_range1 hg (cx.nob "range" (by decide +kernel)) (da_cons ha da_nil hs) hs) fun σ H R' ⟨m, ρ, S, ra, re, p⟩ => by
    refine ⟨m, ρ, S, ra, re, ?_⟩
    have p0 : Post X.K X.mg (fun c d H' => W c d σ H') (SrcOk X.K X.mg) m H ((asI (ev C G A ρ S)).bind fun i S1 => if small62 i then .ok (.ds (rangeD 0 i.toNat)) S1 else .bad) R' := p
    show Post X.K X.mg (fun c d H' => W c d σ H') (Rps X.K X.mg) m H ((ev C G A ρ S).bind fun x S1 => .ok [x] S1) _
    cases q : ev C G A ρ S with
    | bad => rw [q] at p0; exact p0
    | exc cc pp SS => rw [q] at p0; exact p0
    | ok d S1 =>
      rw [q] at p0
      cases d with
      | int i =>
        have p1 : Post X.K X.mg (fun c d H' => W c d σ H') (SrcOk X.K X.mg) m H (if small62 i then .ok (.ds (rangeD 0 i.toNat)) S1 else .bad) R' := p0
        by_cases cc : small62 i = true
        · rw [if_pos cc] at p1
          intro m' H' vs l ra' rp
          obtain ⟨v, rfl, rv⟩ := rps1 rp
          cases rv
          obtain ⟨c1, c2⟩ := small_62 cc
          exact ⟨i, rfl, c1, c2, p1 m' H' _ l ra' src_rng⟩
        · rw [if_neg cc] at p1
          exact p1.elim
      | _ => exact p0.elim
theorem di_rng2 {p : Pos} (cx : Ctx X) (hg : Gl X "range") (ha : PE X a (tD X C G W A)) (hb : PE X b (tD X C G W B)) (hs : starEach [a, b] X.env = [(false, eval a X.env), (false, eval b X.env)] := by rfl)
    (hs2 : starEach [b] X.env = [(false, eval b X.env)] := by rfl) : PI X tg (.Call (.Name "range" p) [a, b] [] pos) (tDi X C G W (.rng2 A B)) :=
  PI_imp (pi_range2 hg (cx.nob "range" (by decide +kernel)) (da_cons ha (da_cons hb da_nil hs2) (by rw [hs, hs2])) hs hs2) fun σ H R' ⟨m, ρ, S, ra, re, p⟩ => by
    refine ⟨m, ρ, S, ra, re, ?_⟩
    have p0 : Post X.K X.mg (fun c d H' => W c d σ H') (SrcOk X.K X.mg) m H ((asI (ev C G A ρ S)).bind fun i S1 => (asI (ev C G B ρ S1)).bind fun j S2 => if small62 i && small62 j then .ok (.ds (rangeD i (j - i).toNat)) S2 else .bad) R' := p
    show Post X.K X.mg (fun c d H' => W c d σ H') (Rps X.K X.mg) m H ((ev C G A ρ S).bind fun x S1 => ((ev C G B ρ S1).bind fun y S2 => .ok [y] S2).bind fun xs S2 => .ok (x :: xs) S2) _
    cases q : ev C G A ρ S with
    | bad => rw [q] at p0; exact p0
    | exc cc pp SS => rw [q] at p0; exact p0
    | ok d S1 =>
      rw [q] at p0
      cases d with
      | int i =>
        have p1 : Post X.K X.mg (fun c d H' => W c d σ H') (SrcOk X.K X.mg) m H ((asI (ev C G B ρ S1)).bind fun j S2 => if small62 i && small62 j then .ok (.ds (rangeD i (j - i).toNat)) S2 else .bad) R' := p0
        show Post X.K X.mg (fun c d H' => W c d σ H') (Rps X.K X.mg) m H (((ev C G B ρ S1).bind fun y S2 => .ok [y] S2).bind fun xs S2 => .ok (.int i :: xs) S2) _
        cases q1 : ev C G B ρ S1 with
        | bad => rw [q1] at p1; exact p1
        | exc cc pp SS => rw [q1] at p1; exact p1
        | ok d2 S2 =>
          rw [q1] at p1
          cases d2 with
          | int j =>
            have p2 : Post X.K X.mg (fun c d H' => W c d σ H') (SrcOk X.K X.mg) m H (if small62 i && small62 j then .ok (.ds (rangeD i (j - i).toNat)) S2 else .bad) R' := p1
            by_cases cc : (small62 i && small62 j) = true
            · rw [if_pos cc] at p2
              intro m' H' vs l ra' rp
              obtain ⟨v, w, rfl, rv, rw'⟩ := rps2 rp
              cases rv
              cases rw'
              obtain ⟨cc1, cc2⟩ := Bool.and_eq_true_iff.mp cc
              obtain ⟨c1, c2⟩ := small_62 cc1
              obtain ⟨c3, c4⟩ := small_62 cc2
              exact ⟨i, j, rfl, ⟨c1, c2, c3, c4⟩, p2 m' H' _ l ra' src_rng⟩
            · rw [if_neg cc] at p2
              exact p2.elim
          | _ => exact p1.elim
      | _ => exact p0.elim
theorem di_zip2 {p tpos : Pos} {elts : List Expr} {kk : Nat} (cx : Ctx X) (hg : Gl X "zip") (ha : PE X a (tD X C G W A)) (hb : PE X b (tD X C G W B))
    (hs2 : starEach [b] X.env = (false, eval b X.env) :: starEach [] X.env := by rfl)
    (hs : starEach [a, b] X.env = (false, eval a X.env) :: starEach [b] X.env := by rfl) (hpl : (backTo pos (starEach [b] X.env)).any (·.1) = false := by rfl) :
    PI X (.Tuple elts kk tpos) (.Call (.Name "zip" p) [a, b] [] pos) (tDi X C G W (.zip2 A B)) :=
  PI_imp (RZ.pi_zipA hg (cx.nob "zip" (by decide +kernel)) (da_cons ha (da_cons hb da_nil hs2) hs) hs hpl) fun σ H R' ⟨m, ρ, S, ra, re, p⟩ => by
    refine ⟨m, ρ, S, ra, re, ?_⟩
    have p0 : Post X.K X.mg (fun c d H' => W c d σ H') (SrcOk X.K X.mg) m H ((ev C G A ρ S).bind fun x S1 => (ev C G B ρ S1).bind fun y S2 => match x, y with
      | .loc n, .loc k => match lstAt S2 n, lstAt S2 k with
        | some _, some _ => .ok (.zip n k) S2
        | _, _ => .bad
      | .tup xs, .tup ys => .ok (.ds ((xs.zip ys).map fun p => .tup [p.1, p.2])) S2
      | _, _ => .bad) R' := p
    show Post X.K X.mg (fun c d H' => W c d σ H') (Rps X.K X.mg) m H ((ev C G A ρ S).bind fun x S1 => ((ev C G B ρ S1).bind fun y S2 => .ok [y] S2).bind fun xs S2 => .ok (x :: xs) S2) _
    cases q : ev C G A ρ S with
    | bad => rw [q] at p0; exact p0
    | exc cc pp SS => rw [q] at p0; exact p0
    | ok d S1 =>
      rw [q] at p0
      simp only [R.bind_ok] at p0 ⊢
      cases q1 : ev C G B ρ S1 with
      | bad => rw [q1] at p0; exact p0
      | exc cc pp SS => rw [q1] at p0; exact p0
      | ok d2 S2 =>
        rw [q1] at p0
        simp only [R.bind_ok] at p0 ⊢
        intro m' H' vs l ra' rp
        obtain ⟨v, w, rfl, rv, rw'⟩ := rps2 rp
        cases rv with
        | loc t =>
          rename_i n1 a1 b1
          cases rw' with
          | loc u =>
            rename_i n2 a2 b2
            cases h1 : lstAt S2 n1 with
            | none => simp only [h1] at p0; exact p0.elim
            | some ds =>
              cases h2 : lstAt S2 n2 with
              | none => simp only [h1, h2] at p0; exact p0.elim
              | some es =>
                simp only [h1, h2] at p0
                obtain ⟨vs, g1, _⟩ := ra'.seq t h1
                obtain ⟨ws, g2, _⟩ := ra'.seq u h2
                exact ⟨_, _, vs, ws, rfl, .inl ⟨g1, g2, p0 m' H' _ l ra' (src_zip t u)⟩⟩
          | _ => exact p0.elim
        | tup t hs =>
          cases rw' with
          | tup u hs2 => exact ⟨_, _, _, _, rfl, .inr ⟨t.t, u.t, p0 m' H' _ l ra' (src_zipT t hs u hs2)⟩⟩
          | _ => exact p0.elim
        | _ => cases rw' <;> exact p0.elim
theorem di_enum {p tpos : Pos} {elts : List Expr} {kk : Nat} (cx : Ctx X) (hg : Gl X "enumerate") (ha : PE X a (tD X C G W A)) (hs : starEach [a] X.env = [(false, eval a X.env)] := by rfl) :
    PI X (.Tuple elts kk tpos) (.Call (.Name "enumerate" p) [a] [] pos) (tDi X C G W (.enum A)) :=
  PI_imp (pi_enum hg (cx.nob "enumerate" (by decide +kernel)) (da_cons ha da_nil hs) hs) fun σ H R' ⟨m, ρ, S, ra, re, p⟩ => by
    refine ⟨m, ρ, S, ra, re, ?_⟩
    have p0 : Post X.K X.mg (fun c d H' => W c d σ H') (SrcOk X.K X.mg) m H ((ev C G A ρ S).bind fun x S1 => match x with
      | .loc n => match lstAt S1 n with
        | some _ => .ok (.enum n) S1
        | none => .bad
      | _ => .bad) R' := p
    show Post X.K X.mg (fun c d H' => W c d σ H') (Rps X.K X.mg) m H ((ev C G A ρ S).bind fun x S1 => .ok [x] S1) _
    cases q : ev C G A ρ S with
    | bad => rw [q] at p0; exact p0
    | exc cc pp SS => rw [q] at p0; exact p0
    | ok d S1 =>
      rw [q] at p0
      simp only [R.bind_ok] at p0 ⊢
      intro m' H' vs l ra' rp
      obtain ⟨v, rfl, rv⟩ := rps1 rp
      cases rv with
      | loc t =>
        rename_i n1 a1 b1
        cases h1 : lstAt S1 n1 with
        | none => simp only [h1] at p0; exact p0.elim
        | some ds =>
          simp only [h1] at p0
          obtain ⟨vs, g1, _⟩ := ra'.seq t h1
          exact ⟨_, vs, rfl, g1, p0 m' H' _ l ra' (src_enum t)⟩
      | _ => exact p0.elim
end
end CC

namespace CC
open PySem PySem.Spec PyProof.Rows L2
abbrev W00 : WX := fun _ _ _ _ => False
theorem wipe_wipe (σ : L2.St) (vs : List Nat) : wipe (wipe σ vs) vs = wipe σ vs := by
  suffices h : ∀ (ws : List Nat), (∀ i ∈ ws, i ∈ vs) → wipe (wipe σ ws) vs = wipe σ vs by exact h vs fun _ z => z
  intro ws
  induction ws with
  | nil => intro _; rfl
  | cons w ws ih =>
    intro hw
    show wipe ((wipe σ ws).set w none) vs = _
    rw [wipe_mem (hw w List.mem_cons_self), ih fun i z => hw i (List.mem_cons_of_mem _ z)]
theorem PTs_imp {X : Cx} {e : List Expr} {t t' : TT} (h : PTs X e t) (i : ∀ σ H Q, t' σ H Q → t σ H Q) : PTs X e t' := ⟨fun pins s σ H Q I q => h.run pins s σ H Q I (i σ H Q q)⟩
theorem Ctx.blk {X : Cx} (c : Ctx X) (s : Shared) (H : Hp) (scope : Scope) (cenv : PySem.Env) (fp : List Addr) : Ctx (X.blk s H scope cenv fp) := ⟨c.calm, c.hu, c.nd, c.g, c.nob⟩
section
variable {X : Cx} {C : CallSem} {G : Nat → Option D} {W : WX} {a b c e : Expr} {A B D' : Xp} {pos : Pos}
theorem dts_nil : PTs X [] (tDT X C G W (.bl true)) := PTs_imp pts_nil fun σ H Q ⟨m, ρ, S, ra, re, p⟩ => Post.now (v := true) p ra rfl
theorem dts_one (h : PT X c (tDT X C G W A)) : PTs X [c] (tDT X C G W A) := pts_one h
theorem i_lc {it tg elt cond : Xp} {vs : List Nat} {σ : L2.St} {H : Hp} {Q : VK} (hsl : ∀ i ∈ tslots tg, i ∈ vs) (h : tD X C G W (.lc it tg elt cond vs) σ H Q) :
    tLc (tDi X C G W it) (gT X.K X.mg tg) (tDT X C G W00 cond) (tD X C G W00 elt) vs σ H Q := by
  obtain ⟨m, ρ, S, ra, re, p⟩ := h
  refine ⟨m, ρ, S, ra, re, Post.imp (Post.bind p) ?_⟩
  rintro J H1 ⟨m1, src, S1, l1, ra1, sok, p1⟩ Dl hD
  let Fin : R (List D) → Prop := fun r => Post X.K X.mg (fun c d H' => W c d σ H') (Rp X.K X.mg) m1 H1 (r.bind fun ds S2 => mk (.lst ds) S2) Q
  let L := lcl src tg (fun ρ1 S2 => asT (ev C G cond ρ1 S2)) (fun ρ1 S2 => ev C G elt ρ1 S2) (wipeE ρ vs)
  refine ⟨fun i n H' => ∃ m' S' acc avs, Le m1 m' H1 H' ∧ RelA X.K X.mg m' H' S' ∧ Rps X.K X.mg m' H' acc avs ∧ H' Dl = some (.lst avs) ∧ (Dl, false) ∉ m' ∧ Fin (L n i acc S'),
    ⟨src.size S1 + 1, m1, S1, [], [], Le.new hD, ra1.new hD, .nil, upd_same, ra1.notin hD, p1⟩, ?_⟩
  rintro i n H' ⟨m', S', acc, avs, l', ra', hs', hDl, hni, fin⟩
  cases n with
  | zero => exact fin.elim
  | succ n =>
    have fin' : Fin (match src.get i S' with
      | none => .bad
      | some none => .ok acc S'
      | some (some d) => match bindT tg d (wipeE ρ vs) with
        | none => .bad
        | some ρ1 => match asT (ev C G cond ρ1 S') with
          | .ok true S1 => match ev C G elt ρ1 S1 with
            | .ok y S2 => if acc.length < sizeLine then L n (i + 1) (acc ++ [y]) S2 else .bad
            | _ => .bad
          | .ok false S1 => L n (i + 1) acc S1
          | _ => .bad) := fin
    obtain ⟨stop, go⟩ := sok m' H' S' i l' ra'
    cases hg : src.get i S' with
    | none => simp only [hg] at fin'; exact fin'.elim
    | some o =>
      cases o with
      | none =>
        simp only [hg] at fin'
        refine .inl ⟨stop hg, ?_⟩
        have f2 : Post X.K X.mg (fun c d H' => W c d σ H') (Rp X.K X.mg) m1 H1 (mk (.lst acc) S') Q := fin'
        refine f2 (m' ++ [(Dl, false)]) H' (.ref Dl) ⟨fun n a h => ?_, l'.tup, fun a u h hn => ?_⟩ (ra'.adopt hDl hni hs') (.loc (ra'.at_new Dl))
        · have := l'.pre n a h
          rw [List.getElem?_append_left (List.getElem?_eq_some_iff.mp this).1]
          exact this
        · obtain ⟨h1, h2⟩ := l'.frame a u h hn
          refine ⟨h1, fun z => ?_⟩
          rcases List.mem_append.mp z with z | z
          · exact h2 z
          · exact ne_of_none h hD (by simpa using z)
      | some d =>
        simp only [hg] at fin'
        obtain ⟨g1, g2⟩ := go d hg
        refine .inr ⟨g1, _, fun H'' z => ⟨n, Nat.lt_succ_self n, z⟩, fun x H'' hy => ?_⟩
        obtain ⟨ly, ray, rpx⟩ := g2 x H'' hy
        cases hb : bindT tg d (wipeE ρ vs) with
        | none => simp only [hb] at fin'; exact fin'.elim
        | some ρ1 =>
          simp only [hb] at fin'
          have re0 : RelE X.K X.mg m' H'' (wipe σ vs) (wipeE ρ vs) := (((re.mono l1).mono l').mono ly).wipe vs
          refine ⟨m', wipeE ρ vs, S', d, ρ1, ray, re0, rpx, hb, fun σ2 re2 w2 => ⟨(w2 vs hsl).trans (wipe_wipe σ vs), m', ρ1, S', ray, re2, ?_⟩⟩
          obtain ⟨hDl2, hni2⟩ := ly.frame Dl _ hDl hni
          cases hc : asT (ev C G cond ρ1 S') with
          | bad => simp only [hc] at fin'; exact fin'.elim
          | exc _ _ _ => simp only [hc] at fin'; exact fin'.elim
          | ok k S2 =>
            show Post X.K X.mg (fun _ _ _ => False) relEq m' H'' (asT (ev C G cond ρ1 S')) _
            rw [hc]
            intro m3 H3 kk l3 ra3 hk
            have hk' : k = kk := hk
            subst hk'
            obtain ⟨hDl3, hni3⟩ := l3.frame Dl _ hDl2 hni2
            cases k with
            | false =>
              simp only [hc] at fin'
              rw [if_neg (by decide)]
              exact ⟨m3, S2, acc, avs, (l'.trans ly).trans l3, ra3, (hs'.mono ly).mono l3, hDl3, hni3, fin'⟩
            | true =>
              simp only [hc] at fin'
              rw [if_pos rfl]
              refine ⟨m3, ρ1, S2, ra3, re2.mono l3, ?_⟩
              show Post X.K X.mg (fun _ _ _ => False) (Rp X.K X.mg) m3 H3 (ev C G elt ρ1 S2) _
              cases he : ev C G elt ρ1 S2 with
              | bad => simp only [he] at fin'; exact fin'.elim
              | exc _ _ _ => simp only [he] at fin'; exact fin'.elim
              | ok y S3 =>
                simp only [he] at fin'
                by_cases cc : acc.length < sizeLine
                · rw [if_pos cc] at fin'
                  intro m4 H4 v l4 ra4 rv
                  obtain ⟨hDl4, hni4⟩ := l4.frame Dl _ hDl3 hni3
                  refine ⟨avs, hDl4, by rw [hs'.length]; exact cc, m4, S3, acc ++ [y], avs ++ [v], (((l'.trans ly).trans l3).trans l4).scratch hD, ra4.scratch hDl4 hni4, ?_, upd_same, hni4, fin'⟩
                  exact ((((hs'.mono ly).mono l3).mono l4).append (.cons rv .nil)).mov (Lt.scratch hDl4)
                · rw [if_neg cc] at fin'
                  exact fin'.elim
theorem de_lc {elt tg iter : Expr} {ifs : List Expr} {scope : Scope} {own : List (Str × Nat)} {it tx ex cd : Xp} (cx : Ctx X) (hi : PI X tg iter (tDi X C G W it)) (ok : BlkOk X.N X.env.scope scope own)
    (hg : ∀ (s : Shared) (H : Hp) (L : Addr) (cl : List (Str × Addr)) (fp : List Addr), PG (X.blk s H scope (compEnvC scope cl L X.env) fp) tg (gT X.K X.mg tx))
    (ht : ∀ (s : Shared) (H : Hp) (L : Addr) (cl : List (Str × Addr)) (fp : List Addr), PTs (X.blk s H scope (compEnvC scope cl L X.env) fp) ifs (tDT X C G W00 cd))
    (he : ∀ (s : Shared) (H : Hp) (L : Addr) (cl : List (Str × Addr)) (fp : List Addr), PE (X.blk s H scope (compEnvC scope cl L X.env) fp) elt (tD X C G W00 ex))
    (hsl : ∀ i ∈ tslots tx, i ∈ own.map (·.2)) (hs : ∀ x, foldedSetIterable iter X.env x = pure x := by intro _; rfl) :
    PE X (.ListComp elt [⟨tg, iter, ifs, 0⟩] scope pos) (tD X C G W (.lc it tx ex cd (own.map (·.2)))) :=
  PE_imp (pe_lc cx.calm cx.nd hi ok hg ht he hs) fun σ H Q h => i_lc hsl h
end
/-! ### contracts -/
structure FnG (P : Program) (w : World) (K : PySem.W.Frag) (mg : Str → Option Value) (base : Heap) (k : Nat) (f : Addr) (fd : FuncData) (ps : List Str) (cs : List D → Sto → R D) : Prop where
  len : ∀ ds S, cs ds S ≠ .bad → ds.length = ps.length
  run : ∀ (A : Around) (outer : List PySem.Env) (s : Shared) (H : Hp) (args : Args) (us : List Value) (vs : List V) (m : Mp) (ds : List D) (S : Sto) (Q : VK) (E : XK), A.guards = some [] → Room k A → Env0 P w K mg base A outer s H →
    BindsTo s fd args (ps.zip us) → Vals vs us → RelA K mg m H S → Rps K mg m H ds vs → Post K mg E (Rp K mg) m H (cs ds S) Q → codeAny (model P w) A (.call (.ref f) args) (CR (L2.CX P w) outer P w H s Q E) s
theorem post_nb {K : PySem.W.Frag} {mg : Str → Option Value} {W : XK} {α β : Type} {rel : Mp → Hp → α → β → Prop} {m : Mp} {H : Hp} {r : R α} {Q : β → Hp → Prop} (h : Post K mg W rel m H r Q) : r ≠ .bad := by
  intro z
  rw [z] at h
  exact h
theorem FnG.mono {P : Program} {w : World} {K : PySem.W.Frag} {mg : Str → Option Value} {base : Heap} {j k : Nat} {f : Addr} {fd : FuncData} {ps : List Str} {cs : List D → Sto → R D} (F : FnG P w K mg base j f fd ps cs) (h : j ≤ k) : FnG P w K mg base k f fd ps cs :=
  ⟨F.len, fun A outer s H args us vs m ds S Q E g hr => F.run A outer s H args us vs m ds S Q E g (hr.mono h)⟩
/-- a def by its body -/
theorem fnG_of {P : Program} {w : World} {K : PySem.W.Frag} {mg : Str → Option Value} {base : Heap} {k : Nat} {f : Addr} {x qual : Str} {st : Stmt} {fd : FuncData} {N ps : List Str} {cs : List D → Sto → R D} (F : Fun K x qual st f fd) (sc : FnScope N ps (defScope st))
    (len : ∀ ds S, cs ds S ≠ .bad → ds.length = ps.length)
    (hb : ∀ (cdv : Value) (A : Around) (outer : List PySem.Env) (s : Shared) (H : Hp) (vs : List V) (m : Mp) (ds : List D) (S : Sto) (Q : VK) (E : XK), A.guards = some [] → Room k (A.deeper (envOfC qual (defScope st) s.heap.objs.size f cdv)) →
      RelA K mg m H S → Rps K mg m H ds vs → Post K mg E (Rp K mg) m H (cs ds S) Q →
      ∃ t, PSs (cxOf (L2.CX P w) P w K mg base N qual (defScope st) f cdv A outer s H E) (defBody st) t ∧ t { nx := fun _ H' => Q .non H', rt := Q } (start N vs) H) : FnG P w K mg base (k + 1) f fd ps cs := by
  obtain ⟨oc, od, kV, doc, pm, an, cdv, ct, osl, rfl, lk, hcd⟩ := F.ex
  refine ⟨len, ?_⟩
  intro A outer s H args us vs m ds S Q E hgd room env hbind rv ra rs post
  have kin : K.In s.heap := env.mod.kin.keeps fun b o z => (env.bs b o z).1
  have nolim : s.heap.NoLimit := env.mod.nolimit.keeps fun b o z => (env.bs b o z).1
  have kinds : ∀ y ∈ ps.zip us, (defScope st).names.lookup y.1 = some .local ∨ ((defScope st).names.lookup y.1 = some .cell ∧ ((cellsFrom (s.heap.objs.size + 1) (defScope st).names []).lookup y.1).isSome = true) := by
    rintro ⟨n, v⟩ hy
    rcases sc.par n (List.of_mem_zip hy).1 with q | q
    · exact .inl q
    · exact .inr ⟨q, PySem.W.cellsFrom_some _ _ _ (.inl q)⟩
  have vlen : vs.length = ps.length := by rw [rs.length]; exact len ds S (post_nb post)
  refine codeAny_call_function room.depth (kin _ _ lk) rfl sc.co sc.gen rfl (PySem.W.codeRec_of kin hcd) (hbind _ _ _ _ ?_)
  refine wpAny_newFunctionEnv_cells sc.kind kinds ?_
  intro env1 henv s1 x1
  subst henv
  refine ⟨nolim.keeps x1.toInCall.keep, codeAny_func ?_⟩
  obtain ⟨t, ht, hq⟩ := hb cdv A outer s H vs m ds S Q E hgd (room.deeper _) ra rs post
  have inv : L2.Inv (cxOf (L2.CX P w) P w K mg base N qual (defScope st) f cdv A outer s H E) [] (start N vs) H s1 := inv_start sc room.hd env vlen rv x1
  refine wpAny_mono (ht.run [] s1 (start N vs) H _ inv hq) ?_ (fun e s' z => z)
  intro fl s' hs
  have done : ∀ {σ' : L2.St} {H' : Hp} {v : V} {u : Value}, L2.Inv (cxOf (L2.CX P w) P w K mg base N qual (defScope st) f cdv A outer s H E) [] σ' H' s' → RelV v u → Q v H' → CE outer P w H s Q u s' :=
    fun {σ' H' v u} J r1 q1 => ⟨v, H', J.os, J.bare, J.base, J.hok, r1, q1⟩
  cases fl with
  | next =>
    obtain ⟨_, _, J, q⟩ := hs
    exact done (v := V.non) (u := Value.none) J rfl q
  | ret u =>
    obtain ⟨_, _, _, J, r1, q⟩ := hs
    exact done J r1 q
  | cont => obtain ⟨_, _, _, q⟩ := hs; exact False.elim q
  | brk => obtain ⟨_, _, _, q⟩ := hs; exact False.elim q
/-- how a call with m values and the keywords ks binds -/
def KB (fd : FuncData) (ps : List Str) (q : Nat × List Str × List Nat) : Prop := ∀ (s : Shared) (us ws zs : List Value), us.length = q.1 → ws.length = q.2.1.length → permL (us ++ ws) q.2.2 = some zs → BindsTo s fd ⟨us, q.2.1.zip ws⟩ (ps.zip zs)
/-- all defs of the text, at one level -/
structure FnAt (P : Program) (w : World) (K : PySem.W.Frag) (mg : Str → Option Value) (base : Heap) (k : Nat) (x : Str) (np : Nat) (kw : List (Nat × List Str × List Nat)) (cs : List D → Sto → R D) : Prop where
  ex : ∃ (f : Addr) (fd : FuncData) (ps : List Str), mg x = some (.ref f) ∧ PySem.W.keepIn K (.ref f) = true ∧ ps.length = np ∧ Binds K fd ps [] ∧ (∀ q ∈ kw, KB fd ps q) ∧ FnG P w K mg base k f fd ps cs
structure Calls (P : Program) (w : World) (K : PySem.W.Frag) (mg : Str → Option Value) (base : Heap) (k : Nat) (nm : List Str) (kwt : Nat → List (Nat × List Str × List Nat)) (T : Nat → Option Fd) (C : CallSem) : Prop where
  fn : ∀ i x fd, nm[i]? = some x → T i = some fd → FnAt P w K mg base k x fd.np (kwt i) (C i)
section
variable {X : Cx} {C : CallSem} {G : Nat → Option D} {W : WX} {a b c e : Expr} {A B D' : Xp} {pos : Pos} {k : Nat}
theorem run_g {f : Addr} {fd : FuncData} {ps : List Str} {cs : List D → Sto → R D} {pins : List (Addr × Obj)} {σ : L2.St} {H : Hp} {s : Shared} {Q : VK} {us : List Value} {vs : List V} {m : Mp} {ds : List D} {S : Sto}
    (F : FnG X.prog X.w X.K X.mg X.base k f fd ps cs) (cx : Ctx X) (hr : Room k X.A) (hb : Binds X.K fd ps []) (tk : Takes X W) (I : L2.Inv X pins σ H s) (r : Vals vs us) (ra : RelA X.K X.mg m H S) (rs : Rps X.K X.mg m H ds vs)
    (h : Post X.K X.mg (fun c d H' => W c d σ H') (Rp X.K X.mg) m H (cs ds S) Q) : wpAny (model X.prog X.w) X.A (call (.ref f) us) (EP X pins σ Q) X.xe s := by
  have hl : us.length = ps.length := by rw [← r.length, rs.length]; exact F.len ds S (post_nb h)
  have hbs : BindsTo s fd ⟨us, []⟩ (ps.zip us) := by
    have z := hb s us I.kIn (by simpa using hl)
    rw [List.append_nil] at z
    exact z
  refine wpAny_call (codeAny_mono (F.run X.A X.stack s H ⟨us, []⟩ us vs m ds S Q _ cx.g hr I.env0 hbs r ra rs h) ?_)
  intro res s' hq
  cases res with
  | error er => exact passAt tk σ pins H s er s' I hq
  | ok fl =>
    cases fl with
    | ret u => exact I.after hq
    | next => exact False.elim hq
    | brk => exact False.elim hq
    | cont => exact False.elim hq
theorem de_call {i : Nat} {x : Str} {fd : Fd} {nm : List Str} {kwt : Nat → List (Nat × List Str × List Nat)} {T : Nat → Option Fd} {p : Pos} {es : List Expr} (cc : Calls X.prog X.w X.K X.mg X.base k nm kwt T C) (hx : nm[i]? = some x) (hT : T i = some fd) (cx : Ctx X) (hr : Room k X.A) (tk : Takes X W) (hg : Gl X x) (ha : PA X (e :: es) (tDs X C G W A))
    (hdb : (x == ("__debug__" : Str)) = false := by decide) (he : starEach (e :: es) X.env = (false, eval e X.env) :: starEach es X.env := by rfl) (hpl : (backTo pos (starEach es X.env)).any (·.1) = false := by rfl) :
    PE X (.Call (.Name x p) (e :: es) [] pos) (tD X C G W (.call i A)) := by
  obtain ⟨f, fd, ps, hm, hk, _, hb, _, F⟩ := (cc.fn i x fd hx hT).ex
  refine ⟨fun pins s σ H Q I ⟨m, ρ, S, ra, re, q⟩ => ?_⟩
  refine wpAny_Call_Name_kw (ld_glob I hg hm ?_ hdb)
  refine PySem.W.callWith_K (h₀ := X.base) I.ok.mod.kin hk (thn (ha.run pos pins s σ H _ I ⟨m, ρ, S, ra, re, Post.bind q⟩) fun us s1 hz => ?_) he hpl
  obtain ⟨vs, H1, I1, r, m1, ds, S1, l1, ra1, rs, q1⟩ := hz
  exact ⟨I1.kIn, run_g F cx hr hb tk I1 r ra1 rs q1⟩
theorem rps_perm {K : PySem.W.Frag} {mg : Str → Option Value} {m : Mp} {H : Hp} {ds : List D} {vs : List V} (h : Rps K mg m H ds vs) : ∀ {perm : List Nat} {es : List D}, permL ds perm = some es → ∃ ws, permL vs perm = some ws ∧ Rps K mg m H es ws
  | [], es, e => by
    cases e
    exact ⟨[], rfl, .nil⟩
  | p :: ps, es, e => by
    have e' : ((ds[p]?).bind fun v => (permL ds ps).map (v :: ·)) = some es := e
    cases q : ds[p]? with
    | none => rw [q] at e'; cases e'
    | some d =>
      rw [q] at e'
      cases q2 : permL ds ps with
      | none => rw [q2] at e'; cases e'
      | some r =>
        rw [q2] at e'
        cases e'
        obtain ⟨v, h1, h2⟩ := h.get q
        obtain ⟨ws, h3, h4⟩ := rps_perm h q2
        refine ⟨v :: ws, ?_, .cons h2 h4⟩
        show ((vs[p]?).bind fun v => (permL vs ps).map (v :: ·)) = _
        rw [h1, h3]
        rfl
theorem vals_perm {vs : List V} {us : List Value} (h : Vals vs us) : ∀ {perm : List Nat} {ws : List V}, permL vs perm = some ws → ∃ zs, permL us perm = some zs ∧ Vals ws zs
  | [], es, e => by
    cases e
    exact ⟨[], rfl, .nil⟩
  | p :: ps, es, e => by
    have e' : ((vs[p]?).bind fun v => (permL vs ps).map (v :: ·)) = some es := e
    cases q : vs[p]? with
    | none => rw [q] at e'; cases e'
    | some d =>
      rw [q] at e'
      cases q2 : permL vs ps with
      | none => rw [q2] at e'; cases e'
      | some r =>
        rw [q2] at e'
        cases e'
        obtain ⟨v, h1, h2⟩ := Vals.get h q
        obtain ⟨ws, h3, h4⟩ := vals_perm h q2
        refine ⟨v :: ws, ?_, .cons h2 h4⟩
        show ((us[p]?).bind fun v => (permL us ps).map (v :: ·)) = _
        rw [h1, h3]
        rfl
theorem evs_len {C : CallSem} {G : Nat → Option D} : ∀ {A : Xp} {ρ : Env} {S S' : Sto} {ds : List D}, evs C G A ρ S = .ok ds S' → ds.length = lenX A
  | .nil, ρ, S, S', ds, h => by cases h; rfl
  | .cons a b, ρ, S, S', ds, h => by
    have h' : ((ev C G a ρ S).bind fun x S1 => (evs C G b ρ S1).bind fun xs S2 => R.ok (x :: xs) S2) = .ok ds S' := h
    cases q : ev C G a ρ S with
    | bad => rw [q] at h'; cases h'
    | exc _ _ _ => rw [q] at h'; cases h'
    | ok x S1 =>
      rw [q] at h'
      simp only [R.bind_ok] at h'
      cases q2 : evs C G b ρ S1 with
      | bad => rw [q2] at h'; cases h'
      | exc _ _ _ => rw [q2] at h'; cases h'
      | ok xs S2 =>
        rw [q2] at h'
        cases h'
        show xs.length + 1 = lenX b + 1
        rw [evs_len q2]
  | .var _, _, _, _, _, h => by cases h
  | .glo _, _, _, _, _, h => by cases h
  | .non, _, _, _, _, h => by cases h
  | .bl _, _, _, _, _, h => by cases h
  | .int _, _, _, _, _, h => by cases h
  | .str _, _, _, _, _, h => by cases h
  | .tyc _, _, _, _, _, h => by cases h
  | .bin _ _ _, _, _, _, _, h => by cases h
  | .neg _, _, _, _, _, h => by cases h
  | .nt _, _, _, _, _, h => by cases h
  | .and _ _, _, _, _, _, h => by cases h
  | .or _ _, _, _, _, _, h => by cases h
  | .cmp _ _ _, _, _, _, _, h => by cases h
  | .cmp2 _ _ _ _ _, _, _, _, _, h => by cases h
  | .ife _ _ _, _, _, _, _, h => by cases h
  | .call _ _, _, _, _, _, h => by cases h
  | .callk _ _ _ _, _, _, _, _, h => by cases h
  | .bi _ _, _, _, _, _, h => by cases h
  | .mt _ _ _, _, _, _, _, h => by cases h
  | .ix _ _, _, _, _, _, h => by cases h
  | .gdx _ _, _, _, _, _, h => by cases h
  | .dnew, _, _, _, _, h => by cases h
  | .sl _ _ _, _, _, _, _, h => by cases h
  | .rev _, _, _, _, _, h => by cases h
  | .tup _, _, _, _, _, h => by cases h
  | .lst _, _, _, _, _, h => by cases h
  | .lc _ _ _ _ _, _, _, _, _, h => by cases h
  | .itr _, _, _, _, _, h => by cases h
  | .rng1 _, _, _, _, _, h => by cases h
  | .rng2 _ _, _, _, _, _, h => by cases h
  | .zip2 _ _, _, _, _, _, h => by cases h
  | .enum _, _, _, _, _, h => by cases h
/-- the callee runs, keywords among its arguments -/
theorem run_gk {f : Addr} {fd : FuncData} {ps : List Str} {cs : List D → Sto → R D} {pins : List (Addr × Obj)} {σ : L2.St} {H : Hp} {s : Shared} {Q : VK} {us ws zs : List Value} {vs : List V} {m : Mp} {ds : List D} {S : Sto} {q : Nat × List Str × List Nat}
    (F : FnG X.prog X.w X.K X.mg X.base k f fd ps cs) (cx : Ctx X) (hr : Room k X.A) (hb : KB fd ps q) (tk : Takes X W) (I : L2.Inv X pins σ H s) (h1 : us.length = q.1) (h2 : ws.length = q.2.1.length) (h3 : permL (us ++ ws) q.2.2 = some zs)
    (r : Vals vs zs) (ra : RelA X.K X.mg m H S) (rs : Rps X.K X.mg m H ds vs)
    (h : Post X.K X.mg (fun c d H' => W c d σ H') (Rp X.K X.mg) m H (cs ds S) Q) : wpAny (model X.prog X.w) X.A (call (.ref f) us (q.2.1.zip ws)) (EP X pins σ Q) X.xe s := by
  refine wpAny_call (codeAny_mono (F.run X.A X.stack s H ⟨us, q.2.1.zip ws⟩ zs vs m ds S Q _ cx.g hr I.env0 (hb s us ws zs h1 h2 h3) r ra rs h) ?_)
  intro res s' hq
  cases res with
  | error er => exact passAt tk σ pins H s er s' I hq
  | ok fl =>
    cases fl with
    | ret u => exact I.after hq
    | next => exact False.elim hq
    | brk => exact False.elim hq
    | cont => exact False.elim hq
theorem i_callk {i : Nat} {perm : List Nat} {σ : L2.St} {H : Hp} {Q : VK} (h : tD X C G W (.callk i A B perm) σ H Q) :
    tDs X C G W A σ H fun vs H1 => tDs X C G W B σ H1 fun ws H2 => ∃ m ds es fs S, vs.length = lenX A ∧ ws.length = lenX B ∧ RelA X.K X.mg m H2 S ∧ Rps X.K X.mg m H2 ds vs ∧ Rps X.K X.mg m H2 es ws ∧ permL (ds ++ es) perm = some fs ∧
      Post X.K X.mg (fun c d H' => W c d σ H') (Rp X.K X.mg) m H2 (C i fs S) Q := by
  obtain ⟨m, ρ, S, ra, re, p⟩ := h
  refine ⟨m, ρ, S, ra, re, ?_⟩
  have p0 : Post X.K X.mg (fun c d H' => W c d σ H') (Rp X.K X.mg) m H ((evs C G A ρ S).bind fun xs S1 => (evs C G B ρ S1).bind fun ys S2 => match permL (xs ++ ys) perm with
    | some zs => C i zs S2
    | none => .bad) Q := p
  cases q : evs C G A ρ S with
  | bad => rw [q] at p0; exact p0.elim
  | exc c pp S1 => rw [q] at p0; exact p0
  | ok ds S1 =>
    rw [q] at p0
    simp only [R.bind_ok] at p0
    intro m1 H1 vs l1 ra1 r1
    refine ⟨m1, ρ, S1, ra1, re.mono l1, ?_⟩
    have p1 := Post.move l1 p0
    cases q2 : evs C G B ρ S1 with
    | bad => rw [q2] at p1; exact p1.elim
    | exc c pp S2 => rw [q2] at p1; exact p1
    | ok es S2 =>
      rw [q2] at p1
      simp only [R.bind_ok] at p1
      intro m2 H2 ws l2 ra2 r2
      cases q3 : permL (ds ++ es) perm with
      | none => simp only [q3] at p1; exact p1.elim
      | some fs =>
        simp only [q3] at p1
        exact ⟨m2, ds, es, fs, S2, by rw [r1.length, evs_len q], by rw [r2.length, evs_len q2], ra2, r1.mono l2, r2, q3, Post.move l2 p1⟩
theorem de_callk {i j : Nat} {x : Str} {fd : Fd} {nm : List Str} {kwt : Nat → List (Nat × List Str × List Nat)} {T : Nat → Option Fd} {p : Pos} {es : List Expr} {kws : List Keyword} {q : Nat × List Str × List Nat} (cc : Calls X.prog X.w X.K X.mg X.base k nm kwt T C) (hq : (kwt i)[j]? = some q)
    (hx : nm[i]? = some x) (hT : T i = some fd) (cx : Ctx X) (hr : Room k X.A) (tk : Takes X W) (hg : Gl X x) (ha : PA X (e :: es) (tDs X C G W A)) (hkw : PK X kws (tDs X C G W B)) (h1 : lenX A = q.1 := by rfl) (h2 : lenX B = q.2.1.length := by rfl)
    (hall : (backToKw pos (keywordEach kws X.env)).all (·.1.isSome) = true := by rfl) (hks : (backToKw pos (keywordEach kws X.env)).filterMap (·.1) = q.2.1 := by rfl)
    (hdb : (x == ("__debug__" : Str)) = false := by decide) (he : starEach (e :: es) X.env = (false, eval e X.env) :: starEach es X.env := by rfl)
    (hpl : ((backTo pos (starEach (e :: es) X.env)).any (·.1) || (backToKw pos (keywordEach kws X.env)).any (·.1.isNone)) = false := by rfl) :
    PE X (.Call (.Name x p) (e :: es) kws pos) (tD X C G W (.callk i A B q.2.2)) := by
  obtain ⟨f, fd, ps, hm, hk, _, hb, hkb, F⟩ := (cc.fn i x fd hx hT).ex
  refine ⟨fun pins s σ H Q I h => ?_⟩
  refine wpAny_Call_Name_kw (ld_glob I hg hm ?_ hdb)
  refine PySem.W.callWith_KW (h₀ := X.base) I.ok.mod.kin hk hall (thn (ha.run pos pins s σ H _ I (i_callk h)) fun us s1 ⟨vs, H1, I1, r, q1⟩ => ?_) hpl he
  refine thn (hkw.run pos pins s1 σ H1 _ I1 q1) fun ws s2 ⟨zs, H2, I2, rz, m, ds, es', fs, S, e1, e2, ra, r1, r2, hp, post⟩ => ⟨I2.kIn, ?_⟩
  rw [hks]
  obtain ⟨ys, hy, ry⟩ := rps_perm (r1.append r2) hp
  obtain ⟨xs, hxs, rx⟩ := vals_perm (Vals.append r rz) hy
  exact run_gk (us := us) F cx hr (hkb q (List.mem_of_getElem? hq)) tk I2 (by rw [← r.length, e1, h1]) (by rw [← rz.length, e2, h2]) hxs rx ra ry post
theorem de_callk0 {i j : Nat} {x : Str} {fd : Fd} {nm : List Str} {kwt : Nat → List (Nat × List Str × List Nat)} {T : Nat → Option Fd} {p : Pos} {kws : List Keyword} {q : Nat × List Str × List Nat} (cc : Calls X.prog X.w X.K X.mg X.base k nm kwt T C) (hq : (kwt i)[j]? = some q)
    (hx : nm[i]? = some x) (hT : T i = some fd) (cx : Ctx X) (hr : Room k X.A) (tk : Takes X W) (hg : Gl X x) (hkw : PK X kws (tDs X C G W B)) (h1 : q.1 = 0 := by rfl) (h2 : lenX B = q.2.1.length := by rfl)
    (hall : (backToKw pos (keywordEach kws X.env)).all (·.1.isSome) = true := by rfl) (hks : (backToKw pos (keywordEach kws X.env)).filterMap (·.1) = q.2.1 := by rfl)
    (hdb : (x == ("__debug__" : Str)) = false := by decide) (hpl : ((backTo pos (starEach [] X.env)).any (·.1) || (backToKw pos (keywordEach kws X.env)).any (·.1.isNone)) = false := by rfl) :
    PE X (.Call (.Name x p) [] kws pos) (tD X C G W (.callk i .nil B q.2.2)) := by
  obtain ⟨f, fd, ps, hm, hk, _, hb, hkb, F⟩ := (cc.fn i x fd hx hT).ex
  refine ⟨fun pins s σ H Q I h => ?_⟩
  refine wpAny_Call_Name_kw (ld_glob I hg hm ?_ hdb)
  obtain ⟨m0, ρ0, S0, ra0, re0, p0⟩ := i_callk h
  have q1 := Post.now (v := []) (show Post X.K X.mg (fun c d H' => W c d σ H') (Rps X.K X.mg) m0 H (.ok [] S0) _ from p0) ra0 .nil
  refine PySem.W.callWith_KW0 (h₀ := X.base) I.ok.mod.kin hk hall (thn (hkw.run pos pins s σ H _ I q1) fun ws s2 ⟨zs, H2, I2, rz, m, ds, es', fs, S, e1, e2, ra, r1, r2, hp, post⟩ => ⟨I2.kIn, ?_⟩) hpl
  rw [hks]
  obtain ⟨ys, hy, ry⟩ := rps_perm (r1.append r2) hp
  obtain ⟨xs, hxs, rx⟩ := vals_perm (Vals.append (.nil : Vals [] []) rz) hy
  exact run_gk (us := []) F cx hr (hkb q (List.mem_of_getElem? hq)) tk I2 h1.symm (by rw [← rz.length, e2, h2]) hxs rx ra ry post
/-! ### statements -/
def PostS (K : PySem.W.Frag) (mg : Str → Option Value) (W : WX) (m : Mp) (H : Hp) (r : Rs) (D' : Ends) : Prop := match r with
  | .nx ρ S => ∀ m' H' σ, Le m m' H H' → RelA K mg m' H' S → RelE K mg m' H' σ ρ → D'.nx σ H'
  | .bk ρ S => ∀ m' H' σ, Le m m' H H' → RelA K mg m' H' S → RelE K mg m' H' σ ρ → D'.bk σ H'
  | .ct ρ S => ∀ m' H' σ, Le m m' H H' → RelA K mg m' H' S → RelE K mg m' H' σ ρ → D'.ct σ H'
  | .rt d S => ∀ m' H' v, Le m m' H H' → RelA K mg m' H' S → Rp K mg m' H' d v → D'.rt v H'
  | .exc c p ρ S => ∀ m' H' σ cls dd, Le m m' H H' → RelA K mg m' H' S → RelE K mg m' H' σ ρ → RpX mg c p cls dd → W cls dd σ H'
  | .bad => False
theorem PostS.move {K : PySem.W.Frag} {mg : Str → Option Value} {W : WX} {m m1 : Mp} {H H1 : Hp} {r : Rs} {D' : Ends} (l : Le m m1 H H1) (h : PostS K mg W m H r D') : PostS K mg W m1 H1 r D' := by
  cases r with
  | bad => exact h
  | rt d S => exact fun m' H' v l' => h m' H' v (l.trans l')
  | exc c p ρ S => exact fun m' H' σ cls dd l' => h m' H' σ cls dd (l.trans l')
  | nx ρ S => exact fun m' H' σ l' => h m' H' σ (l.trans l')
  | bk ρ S => exact fun m' H' σ l' => h m' H' σ (l.trans l')
  | ct ρ S => exact fun m' H' σ l' => h m' H' σ (l.trans l')
theorem PostS.ofR {α β : Type} {K : PySem.W.Frag} {mg : Str → Option Value} {W : WX} {m : Mp} {H : Hp} {σ : L2.St} {ρ : Env} {r : R α} {f : α → Sto → Rs} {D' : Ends} {rel : Mp → Hp → α → β → Prop} (re : RelE K mg m H σ ρ) (h : PostS K mg W m H (CC.ofR r ρ f) D') :
    Post K mg (fun c d H' => W c d σ H') rel m H r (fun v H1 => ∃ m1 d S1, Le m m1 H H1 ∧ RelA K mg m1 H1 S1 ∧ rel m1 H1 d v ∧ PostS K mg W m1 H1 (f d S1) D') := by
  cases r with
  | bad => exact h
  | exc c p S => exact fun m' H' cls dd l ra rx => h m' H' σ cls dd l ra (re.mono l) rx
  | ok d S => exact fun m' H' v l ra rv => ⟨m', d, S, l, ra, rv, PostS.move l h⟩
def tS (X : Cx) (n : Nat) (C : CallSem) (G : Nat → Option D) (W : WX) (s : Sx) : TS := fun D' σ H => ∃ m ρ S, RelA X.K X.mg m H S ∧ RelE X.K X.mg m H σ ρ ∧ PostS X.K X.mg W m H (run n C G s ρ S) D'
variable {n : Nat}
theorem ds_pass : PS X (.Pass pos) (tS X n C G W .pass) := PS_imp ps_pass fun D' σ H ⟨m, ρ, S, ra, re, p⟩ => p m H σ (Le.refl m H) ra re
theorem ds_break : PS X (.Break pos) (tS X n C G W .brk) := PS_imp ps_break fun D' σ H ⟨m, ρ, S, ra, re, p⟩ => p m H σ (Le.refl m H) ra re
theorem ds_cont : PS X (.Continue pos) (tS X n C G W .cont) := PS_imp ps_continue fun D' σ H ⟨m, ρ, S, ra, re, p⟩ => p m H σ (Le.refl m H) ra re
theorem ds_expr (he : PE X e (tD X C G W A)) (hs : swapsWith e none pos.line X.env = pure false := by rfl) : PS X (.Expr e pos) (tS X n C G W (.ex A)) :=
  PS_imp (ps_expr he hs) fun D' σ H ⟨m, ρ, S, ra, re, p⟩ => ⟨m, ρ, S, ra, re, Post.imp (PostS.ofR re p) fun v H1 ⟨m1, d, S1, l1, ra1, r1, p1⟩ => p1 m1 H1 σ (Le.refl _ _) ra1 (re.mono l1)⟩
theorem ds_ret (he : PE X e (tD X C G W A)) : PS X (.Return (some e) pos) (tS X n C G W (.ret A)) :=
  PS_imp (ps_ret he) fun D' σ H ⟨m, ρ, S, ra, re, p⟩ => ⟨m, ρ, S, ra, re, Post.imp (PostS.ofR re p) fun v H1 ⟨m1, d, S1, l1, ra1, r1, p1⟩ => p1 m1 H1 v (Le.refl _ _) ra1 r1⟩
theorem ds_retN : PS X (.Return none pos) (tS X n C G W (.ret .non)) :=
  PS_imp ps_retN fun D' σ H ⟨m, ρ, S, ra, re, p⟩ => p m H .non (Le.refl _ _) ra .non
theorem ds_if {s1 s2 : List Stmt} {A1 A2 : Sx} (hc : PT X c (tDT X C G W A)) (h1 : PSs X s1 (tS X n C G W A1)) (h2 : PSs X s2 (tS X n C G W A2)) : PS X (.If c s1 s2 pos) (tS X n C G W (.iff A A1 A2)) :=
  PS_imp (ps_if hc h1 h2) fun D' σ H ⟨m, ρ, S, ra, re, p⟩ => ⟨m, ρ, S, ra, re, Post.imp (PostS.ofR (rel := relEq) re p) fun k H1 ⟨m1, d, S1, l1, ra1, r1, p1⟩ => by
    have r1' : d = k := r1
    subst r1'
    cases d with
    | true => exact ⟨m1, ρ, S1, ra1, re.mono l1, p1⟩
    | false => exact ⟨m1, ρ, S1, ra1, re.mono l1, p1⟩⟩
theorem dss_nil : PSs X [] (tS X n C G W .nil) := PSs_imp pss_nil fun D' σ H ⟨m, ρ, S, ra, re, p⟩ => p m H σ (Le.refl _ _) ra re
theorem dss_cons {st : Stmt} {r : List Stmt} {A1 A2 : Sx} (h1 : PS X st (tS X n C G W A1)) (h2 : PSs X r (tS X n C G W A2)) : PSs X (st :: r) (tS X n C G W (.cons A1 A2)) :=
  PSs_imp (pss_cons h1 h2) fun D' σ H ⟨m, ρ, S, ra, re, p⟩ => ⟨m, ρ, S, ra, re, by
    have p0 : PostS X.K X.mg W m H (match run n C G A1 ρ S with
      | .nx ρ1 S1 => run n C G A2 ρ1 S1
      | r => r) D' := p
    cases q : run n C G A1 ρ S with
    | nx ρ1 S1 =>
      rw [q] at p0
      exact fun m' H' σ' l ra' re' => ⟨m', ρ1, S1, ra', re', PostS.move l p0⟩
    | bk ρ1 S1 => rw [q] at p0; exact p0
    | ct ρ1 S1 => rw [q] at p0; exact p0
    | rt d S1 => rw [q] at p0; exact p0
    | exc c pp ρ1 S1 => rw [q] at p0; exact p0
    | bad => rw [q] at p0; exact p0⟩
/-! stores -/
def gU (X : Cx) (C : CallSem) (G : Nat → Option D) (W : WX) (t : Xp) : TG := fun v σ H Q => ∃ m ρ S d, RelA X.K X.mg m H S ∧ RelE X.K X.mg m H σ ρ ∧ Rp X.K X.mg m H d v ∧ PostS X.K X.mg W m H (setT C G t d ρ S) { nx := Q, rt := fun _ _ => False }
def notIx : Xp → Bool
  | .ix _ _ => false
  | _ => true
theorem setT_bind {t : Xp} {d : D} {ρ : Env} {S : Sto} (h : notIx t = true) : setT C G t d ρ S = match bindT t d ρ with
    | some ρ1 => .nx ρ1 S
    | none => .bad := by
  cases t <;> first | rfl | cases h
theorem dgu_bind {tg : Expr} {t : Xp} (h : PG X tg (gT X.K X.mg t)) (hn : notIx t = true := by rfl) : PG X tg (gU X C G W t) :=
  PG_imp h fun v σ H Q ⟨m, ρ, S, d, ra, re, r, p⟩ => by
    rw [setT_bind hn] at p
    cases q : bindT t d ρ with
    | none => rw [q] at p; exact p.elim
    | some ρ1 =>
      rw [q] at p
      exact ⟨m, ρ, S, d, ρ1, ra, re, r, q, fun σ' re' _ => p m H σ' (Le.refl _ _) ra re'⟩
theorem dgu_ix {o i : Expr} (cx : Ctx X) (ho : PE X o (tD X C G W A)) (hi : PE X i (tD X C G W B))
    (ha : ∀ v, assign (.Subscript o i pos) X.env v = (do
      let ov ← holding [v] (eval o X.env)
      let iv ← holding [v, ov] (eval i X.env)
      standAt pos
      holding [v, ov, iv] (setItem ov iv v)
      release [v, ov, iv] []) := by intro _; rfl) : PG X (.Subscript o i pos) (gU X C G W (.ix A B)) :=
  PG_imp (pg_sub ho hi (set_any cx) ha) fun v σ H Q ⟨m, ρ, S, d, ra, re, r, p⟩ => by
    have p0 : PostS X.K X.mg W m H (CC.ofR (ev C G A ρ S) ρ fun x S1 => CC.ofR (ev C G B ρ S1) ρ fun y S2 => match setIx x y d S2 with
      | some S3 => .nx ρ S3
      | none => .bad) { nx := Q, rt := fun _ _ => False } := p
    refine ⟨m, ρ, S, ra, re, Post.imp (PostS.ofR re p0) fun x H1 ⟨m1, d1, S1, l1, ra1, r1, p1⟩ => ?_⟩
    refine ⟨m1, ρ, S1, ra1, re.mono l1, Post.imp (PostS.ofR (re.mono l1) p1) fun y H2 ⟨m2, d2, S2, l2, ra2, r2, p2⟩ => ?_⟩
    cases q : setIx d1 d2 d S2 with
    | none => simp only [q] at p2; exact p2.elim
    | some S3 =>
      simp only [q] at p2
      exact ⟨m2, S2, d1, d2, d, S3, ra2, r1.mono l2, r2, (r.mono l1).mono l2, q, fun H' l ra' => p2 m2 H' σ l ra' (((re.mono l1).mono l2).mono l)⟩
theorem ds_asg {tg : Expr} {t : Xp} (he : PE X e (tD X C G W A)) (hg : PG X tg (gU X C G W t)) (hs : swapsWithSole [tg] e pos.line X.env = pure false := by rfl) (hw : swappedStores [tg] e X.env = pure none := by rfl)
    (h1 : (assignEach [tg] X.env).map (·.2) = [assign tg X.env] := by rfl) : PS X (.Assign [tg] e pos) (tS X n C G W (.asg t A)) :=
  PS_imp (ps_asg he hg hs hw h1) fun D' σ H ⟨m, ρ, S, ra, re, p⟩ => ⟨m, ρ, S, ra, re, Post.imp (PostS.ofR re p) fun v H1 ⟨m1, d, S1, l1, ra1, r1, p1⟩ => ⟨m1, ρ, S1, d, ra1, re.mono l1, r1, by
    have key : ∀ ρ' S', setT C G t d ρ S1 ≠ .bk ρ' S' ∧ setT C G t d ρ S1 ≠ .ct ρ' S' ∧ ∀ d', setT C G t d ρ S1 ≠ .rt d' S' := by
      intro ρ' S'
      cases t with
      | ix o i =>
        show CC.ofR (ev C G o ρ S1) ρ _ ≠ _ ∧ CC.ofR (ev C G o ρ S1) ρ _ ≠ _ ∧ ∀ d', CC.ofR (ev C G o ρ S1) ρ _ ≠ _
        cases ev C G o ρ S1 with
        | bad => exact ⟨(fun z => nomatch z), (fun z => nomatch z), fun _ z => nomatch z⟩
        | exc _ _ _ => exact ⟨(fun z => nomatch z), (fun z => nomatch z), fun _ z => nomatch z⟩
        | ok x S2 =>
          simp only [ofR_ok]
          cases ev C G i ρ S2 with
          | bad => exact ⟨(fun z => nomatch z), (fun z => nomatch z), fun _ z => nomatch z⟩
          | exc _ _ _ => exact ⟨(fun z => nomatch z), (fun z => nomatch z), fun _ z => nomatch z⟩
          | ok y S3 =>
            simp only [ofR_ok]
            cases setIx x y d S3 with
            | none => exact ⟨(fun z => nomatch z), (fun z => nomatch z), fun _ z => nomatch z⟩
            | some S4 => exact ⟨(fun z => nomatch z), (fun z => nomatch z), fun _ z => nomatch z⟩
      | _ =>
        rw [setT_bind rfl]
        cases bindT _ d ρ with
        | none => exact ⟨(fun z => nomatch z), (fun z => nomatch z), fun _ z => nomatch z⟩
        | some S4 => exact ⟨(fun z => nomatch z), (fun z => nomatch z), fun _ z => nomatch z⟩
    cases q : setT C G t d ρ S1 with
    | bad => rw [q] at p1; exact p1
    | nx ρ' S' => rw [q] at p1; exact p1
    | exc c pp ρ' S' => rw [q] at p1; exact p1
    | bk ρ' S' => exact absurd q (key ρ' S').1
    | ct ρ' S' => exact absurd q (key ρ' S').2.1
    | rt d' S' => exact absurd q ((key ρ S').2.2 d')⟩⟩
theorem ds_par2 {i j : Nat} {x y : Str} {px py pt : Pos} {kt k2 pt2} (hc : X.calm = true) (hN : X.N.Nodup) (hi : X.N[i]? = some x) (hj : X.N[j]? = some y) (hij : i ≠ j)
    (hx : X.env.scope.names.lookup x = some .local) (hy : X.env.scope.names.lookup y = some .local) (ha : PA X [a, b] (tDs X C G W A))
    (hw : swappedStores [.Tuple [.Name x px, .Name y py] kt pt] (.Tuple [a, b] k2 pt2) X.env = pure (some [x, y]))
    (hs : swapsWithSole [.Tuple [.Name x px, .Name y py] kt pt] (.Tuple [a, b] k2 pt2) pos.line X.env = pure false := by rfl) :
    PS X (.Assign [.Tuple [.Name x px, .Name y py] kt pt] (.Tuple [a, b] k2 pt2) pos) (tS X n C G W (.par [i, j] A)) :=
  PS_imp (ps_par hc hN hi hj hij hx hy ha hw hs) fun D' σ H ⟨m, ρ, S, ra, re, p⟩ => ⟨m, ρ, S, ra, re, Post.imp (PostS.ofR re p) fun vs H1 ⟨m1, ds, S1, l1, ra1, r1, p1⟩ => by
    match ds, r1, p1 with
    | [d1, d2], r1, p1 =>
      obtain ⟨v, w, rfl, q1, q2⟩ := rps2 r1
      exact ⟨v, w, rfl, p1 m1 H1 _ (Le.refl _ _) ra1 (((re.mono l1).set q1).set q2)⟩
    | [], r1, p1 => exact p1.elim
    | [_], r1, p1 => exact p1.elim
    | _ :: _ :: _ :: _, r1, p1 => exact p1.elim⟩
theorem ds_par3 {i j l : Nat} {x y z : Str} {px py pz pt : Pos} {kt k2 pt2} (hc : X.calm = true) (hN : X.N.Nodup) (hi : X.N[i]? = some x) (hj : X.N[j]? = some y) (hl : X.N[l]? = some z) (hij : i ≠ j) (hil : i ≠ l) (hjl : j ≠ l)
    (hx : X.env.scope.names.lookup x = some .local) (hy : X.env.scope.names.lookup y = some .local) (hz : X.env.scope.names.lookup z = some .local) (ha : PA X [a, b, c] (tDs X C G W A))
    (hw : swappedStores [.Tuple [.Name x px, .Name y py, .Name z pz] kt pt] (.Tuple [a, b, c] k2 pt2) X.env = pure (some [x, y, z]))
    (hs : swapsWithSole [.Tuple [.Name x px, .Name y py, .Name z pz] kt pt] (.Tuple [a, b, c] k2 pt2) pos.line X.env = pure false := by rfl) :
    PS X (.Assign [.Tuple [.Name x px, .Name y py, .Name z pz] kt pt] (.Tuple [a, b, c] k2 pt2) pos) (tS X n C G W (.par [i, j, l] A)) :=
  PS_imp (ps_par3 hc hN hi hj hl hij hil hjl hx hy hz ha hw hs) fun D' σ H ⟨m, ρ, S, ra, re, p⟩ => ⟨m, ρ, S, ra, re, Post.imp (PostS.ofR re p) fun vs H1 ⟨m1, ds, S1, l1, ra1, r1, p1⟩ => by
    match ds, r1, p1 with
    | [d1, d2, d3], .cons q1 r2, p1 =>
      obtain ⟨v, w, rfl, q2, q3⟩ := rps2 r2
      exact ⟨_, v, w, rfl, p1 m1 H1 _ (Le.refl _ _) ra1 ((((re.mono l1).set q1).set q2).set q3)⟩
    | [], r1, p1 => exact p1.elim
    | [_], r1, p1 => exact p1.elim
    | [_, _], r1, p1 => exact p1.elim
    | _ :: _ :: _ :: _ :: _, r1, p1 => exact p1.elim⟩
theorem ds_aug {i : Nat} {x : Str} {op : Operator} {pos' : Pos} (hN : X.N.Nodup) (hi : X.N[i]? = some x) (hx : Loc X.env.scope x) (he : PE X e (tD X C G W A)) (hf : X.fn x = true ∨ X.env.scope.names.lookup x = some .local := by first | exact .inl rfl | exact .inr rfl | assumption) :
    PS X (.AugAssign (.Name x pos') op e pos) (tS X n C G W (.aug i op A)) :=
  PS_imp (ps_aug hN hi hx he (op_aug op) hf) fun D' σ H ⟨m, ρ, S, ra, re, p⟩ => by
    have p0 : PostS X.K X.mg W m H (match ρ[i]?.bind id with
      | some x => CC.ofR (ev C G A ρ S) ρ fun y S1 => CC.ofR (augD op x y S1) ρ fun z S2 => .nx (ρ.set i (some z)) S2
      | none => .bad) D' := p
    cases q : ρ[i]?.bind id with
    | none => rw [q] at p0; exact p0.elim
    | some d0 =>
      rw [q] at p0
      have q' : ρ[i]? = some (some d0) := by
        cases z : ρ[i]? with
        | none => rw [z] at q; cases q
        | some o => rw [z] at q; have q2 : o = some d0 := q; rw [q2]
      obtain ⟨v, h1, h2⟩ := re.at_ i d0 q'
      refine ⟨v, h1, m, ρ, S, ra, re, Post.imp (PostS.ofR re p0) fun y H1 ⟨m1, d1, S1, l1, ra1, r1, p1⟩ => ?_⟩
      exact ⟨_, m1, S1, d0, d1, ra1, h2.mono l1, r1, Post.imp (PostS.ofR (re.mono l1) p1) fun z H2 ⟨m2, d2, S2, l2, ra2, r2, p2⟩ => p2 m2 H2 _ (Le.refl _ _) ra2 (((re.mono l1).mono l2).set r2)⟩
/-! loops -/
theorem ds_while {body : List Stmt} {B' : Sx} (hp : PassesOwn (model X.prog X.w) X.A X.env X.xe) (hc : PT X c (tDT X C G W A)) (hb : PSs X body (tS X n C G W B')) : PS X (.While c body [] pos) (tS X n C G W (.whl A B')) :=
  PS_imp (ps_while hp hc hb) fun D' σ H ⟨m, ρ, S, ra, re, p⟩ => by
    refine ⟨fun j σ' H' => ∃ m' ρ' S', RelA X.K X.mg m' H' S' ∧ RelE X.K X.mg m' H' σ' ρ' ∧ PostS X.K X.mg W m' H' (whl (fun ρ S => asT (ev C G A ρ S)) (fun ρ S => run n C G B' ρ S) j ρ' S') D', ⟨n, m, ρ, S, ra, re, p⟩, ?_⟩
    rintro j σ' H' ⟨m', ρ', S', ra', re', p'⟩
    cases j with
    | zero => exact p'.elim
    | succ j =>
      have p0 : PostS X.K X.mg W m' H' (CC.ofR (asT (ev C G A ρ' S')) ρ' fun t S1 => if t then (match run n C G B' ρ' S1 with
        | .nx ρ2 S2 => whl (fun ρ S => asT (ev C G A ρ S)) (fun ρ S => run n C G B' ρ S) j ρ2 S2
        | .ct ρ2 S2 => whl (fun ρ S => asT (ev C G A ρ S)) (fun ρ S => run n C G B' ρ S) j ρ2 S2
        | .bk ρ2 S2 => .nx ρ2 S2
        | r => r) else .nx ρ' S1) D' := p'
      refine ⟨m', ρ', S', ra', re', Post.imp (PostS.ofR (rel := relEq) re' p0) fun k H1 ⟨m1, d, S1, l1, ra1, r1, p1⟩ => ?_⟩
      have r1' : d = k := r1
      subst r1'
      cases d with
      | false => exact p1 m1 H1 σ' (Le.refl _ _) ra1 (re'.mono l1)
      | true =>
        rw [if_pos rfl] at p1
        rw [if_pos rfl]
        refine ⟨_, fun σ2 H2 z => ⟨j, Nat.lt_succ_self j, z⟩, m1, ρ', S1, ra1, re'.mono l1, ?_⟩
        cases q : run n C G B' ρ' S1 with
        | nx ρ2 S2 => rw [q] at p1; exact fun m2 H2 σ2 l2 ra2 re2 => ⟨m2, ρ2, S2, ra2, re2, PostS.move l2 p1⟩
        | ct ρ2 S2 => rw [q] at p1; exact fun m2 H2 σ2 l2 ra2 re2 => ⟨m2, ρ2, S2, ra2, re2, PostS.move l2 p1⟩
        | bk ρ2 S2 => rw [q] at p1; exact p1
        | rt d2 S2 => rw [q] at p1; exact p1
        | exc cc pp ρ2 S2 => rw [q] at p1; exact p1
        | bad => rw [q] at p1; exact p1
theorem ds_for {tg iter : Expr} {body : List Stmt} {t it : Xp} {B' : Sx} (hp : PassesOwn (model X.prog X.w) X.A X.env X.xe) (hc : X.calm = true) (hi : PI X tg iter (tDi X C G W it)) (hg : PG X tg (gT X.K X.mg t)) (hb : PSs X body (tS X n C G W B'))
    (hs : ∀ x, foldedSetIterable iter X.env x = pure x := by intro _; rfl) : PS X (.For tg iter body [] pos) (tS X n C G W (.for_ t it B')) :=
  PS_imp (ps_for hp hc hi hg hb hs) fun D' σ H ⟨m, ρ, S, ra, re, p⟩ => by
    refine ⟨m, ρ, S, ra, re, Post.imp (PostS.ofR re p) ?_⟩
    rintro J H1 ⟨m1, src, S1, l1, ra1, sok, p1⟩
    refine ⟨fun i j σ' H' => ∃ m' ρ' S', Le m1 m' H1 H' ∧ RelA X.K X.mg m' H' S' ∧ RelE X.K X.mg m' H' σ' ρ' ∧ PostS X.K X.mg W m' H' (forl src t (fun ρ S => run n C G B' ρ S) j i ρ' S') D', ⟨src.size S1 + 1, m1, ρ, S1, Le.refl _ _, ra1, re.mono l1, p1⟩, ?_⟩
    rintro i j σ' H' ⟨m', ρ', S', l', ra', re', p'⟩
    cases j with
    | zero => exact p'.elim
    | succ j =>
      have p0 : PostS X.K X.mg W m' H' (match src.get i S' with
        | none => .bad
        | some none => .nx ρ' S'
        | some (some d) => match bindT t d ρ' with
          | none => .bad
          | some ρ1 => match run n C G B' ρ1 S' with
            | .nx ρ2 S2 => forl src t (fun ρ S => run n C G B' ρ S) j (i + 1) ρ2 S2
            | .ct ρ2 S2 => forl src t (fun ρ S => run n C G B' ρ S) j (i + 1) ρ2 S2
            | .bk ρ2 S2 => .nx ρ2 S2
            | r => r) D' := p'
      obtain ⟨stop, go⟩ := sok m' H' S' i l' ra'
      cases hgt : src.get i S' with
      | none => simp only [hgt] at p0; exact p0.elim
      | some o =>
        cases o with
        | none =>
          simp only [hgt] at p0
          exact .inl ⟨stop hgt, p0 m' H' σ' (Le.refl _ _) ra' re'⟩
        | some d =>
          simp only [hgt] at p0
          obtain ⟨g1, g2⟩ := go d hgt
          refine .inr ⟨g1, _, fun σ2 H2 z => ⟨j, Nat.lt_succ_self j, z⟩, fun x H'' hy => ?_⟩
          obtain ⟨ly, ray, rpx⟩ := g2 x H'' hy
          cases hbt : bindT t d ρ' with
          | none => simp only [hbt] at p0; exact p0.elim
          | some ρ1 =>
            simp only [hbt] at p0
            refine ⟨m', ρ', S', d, ρ1, ray, re'.mono ly, rpx, hbt, fun σ2 re2 _ => ⟨m', ρ1, S', ray, re2, ?_⟩⟩
            cases q : run n C G B' ρ1 S' with
            | nx ρ2 S2 => simp only [q] at p0; exact fun m2 H2 σ3 l2 ra2 re3 => ⟨m2, ρ2, S2, (l'.trans ly).trans l2, ra2, re3, PostS.move (ly.trans l2) p0⟩
            | ct ρ2 S2 => simp only [q] at p0; exact fun m2 H2 σ3 l2 ra2 re3 => ⟨m2, ρ2, S2, (l'.trans ly).trans l2, ra2, re3, PostS.move (ly.trans l2) p0⟩
            | bk ρ2 S2 => simp only [q] at p0; exact PostS.move (D' := { D' with nx := _, ct := _, bk := D'.nx }) ly (r := .bk ρ2 S2) p0
            | rt d2 S2 => simp only [q] at p0; exact PostS.move (D' := { D' with nx := _, ct := _, bk := D'.nx }) ly (r := .rt d2 S2) p0
            | exc cc pp ρ2 S2 => simp only [q] at p0; exact PostS.move (D' := { D' with nx := _, ct := _, bk := D'.nx }) ly (r := .exc cc pp ρ2 S2) p0
            | bad => simp only [q] at p0; exact p0
/-- name = [..] on one line -/
theorem ds_setLc {i : Nat} {y : Str} {py spos : Pos} {elt tg iter : Expr} {ifs : List Expr} {scope : Scope} {own : List (Str × Nat)} {it tx ex cd : Xp} (cx : Ctx X) (hy : X.N[i]? = some y) (hyl : X.env.scope.names.lookup y = some .local)
    (hsw : swapsWith (.ListComp elt [⟨tg, iter, ifs, 0⟩] scope pos) (some (.Name y py)) spos.line X.env = pure true) (hi : PI X tg iter (tDi X C G W it)) (ok : BlkOk X.N X.env.scope scope own)
    (hg : ∀ (s : Shared) (H : Hp) (L : Addr) (cl : List (Str × Addr)) (fp : List Addr), PG (X.blk s H scope (compEnvC scope cl L X.env) fp) tg (gT X.K X.mg tx))
    (ht : ∀ (s : Shared) (H : Hp) (L : Addr) (cl : List (Str × Addr)) (fp : List Addr), PTs (X.blk s H scope (compEnvC scope cl L X.env) fp) ifs (tDT X C G W00 cd))
    (he : ∀ (s : Shared) (H : Hp) (L : Addr) (cl : List (Str × Addr)) (fp : List Addr), PE (X.blk s H scope (compEnvC scope cl L X.env) fp) elt (tD X C G W00 ex))
    (hsl : ∀ i ∈ tslots tx, i ∈ own.map (·.2)) (hs : ∀ x, foldedSetIterable iter X.env x = pure x := by intro _; rfl) :
    PS X (.Assign [.Name y py] (.ListComp elt [⟨tg, iter, ifs, 0⟩] scope pos) spos) (tS X n C G W (.asg (.var i) (.lc it tx ex cd (own.map (·.2))))) :=
  PS_imp (ps_setLc cx.calm cx.nd hy hyl hsw hi ok hg ht he hs) fun D' σ H ⟨m, ρ, S, ra, re, p⟩ => i_lc hsl ⟨m, ρ, S, ra, re, Post.imp (PostS.ofR re p) fun v H1 ⟨m1, d, S1, l1, ra1, r1, p1⟩ => p1 m1 H1 _ (Le.refl _ _) ra1 ((re.mono l1).set r1)⟩
end
end CC

namespace CC
open PySem PySem.Spec PyProof.Rows L2
/-! ### the law's own call -/
theorem rps_ints {K : PySem.W.Frag} {mg : Str → Option Value} {m : Mp} {H : Hp} : ∀ ns : List Int, Rps K mg m H (ns.map D.int) (ns.map V.int)
  | [] => .nil
  | n :: ns => .cons (.int n) (rps_ints ns)
abbrev Told (P : Program) (w : World) (fa a : Addr) (s : Shared) : Prop :=
  codeAny (model P w) callerA (.call (.ref fa) ⟨[.ref a], []⟩) (fun r s' => r = .ok (.ret (.bool true)) ∧ PySem.OldK s.heap s'.heap ∧ s'.os = s.os ∧ AllBare s'.gens) s
theorem law_core {P : Program} {w : World} {K : PySem.W.Frag} {mg mb : Str → Option Value} {k : Nat} {fa a : Addr} {x : Str} {kw : List (Nat × List Str × List Nat)} {cs : List D → Sto → R D} {s : Shared} {vs : List Value} {ns : List Int} {H : Hp} {m : Mp} {ob : Obj}
    (KX : K.In s.heap) (hns : s.heap.Ns mainGlobals mg) (hb : s.heap.Ns builtinsNs mb) (hbb : ∀ x : Str, x ≠ "__name__" → mb x = bootBuiltins x) (hlim : s.heap.NoLimit) (hg : s.gens = #[])
    (ha : s.heap.get? a = some ob) (hob : ob = { cls := .type "list", data := .seq vs.toArray }) (hr : Room k callerA)
    (hfa : mg x = some (.ref fa)) (F : ∀ base : Heap, K.In base → base.Ns mainGlobals mg → FnAt P w K mg base k x 1 kw cs)
    (hcs : ∃ S', cs [.loc 0] [.frz (ns.map D.int)] = .ok (.bl true) S')
    (hH : ∀ b, H b = none ∨ (b = a ∧ H b = some (.frz ob (.lst (ns.map V.int))))) (hK : H a ≠ none → K.lookup a = none) (ok : HOk P w H s.heap)
    (ra : RelA K mg m H [.frz (ns.map D.int)]) (rp : Rp K mg m H (.loc 0) (.ref a)) : Told P w fa a s := by
  have only : ∀ b u, H b = some u → b = a ∧ u = .frz ob (.lst (ns.map V.int)) := fun b u z => by
    rcases hH b with q | ⟨q1, q2⟩
    · rw [z] at q; cases q
    · rw [z] at q2; cases q2; exact ⟨q1, rfl⟩
  have nodict : ∀ {b : Addr} {o : Obj} {es : Array DictEntry} {ep : Nat}, s.heap.get? b = some o → o.data = .dict es ep → H b = none := by
    intro b o es ep z1 z2
    rcases hH b with q | ⟨q1, _⟩
    · exact q
    · subst q1
      rw [ha, hob] at z1
      cases z1
      cases z2
  have keepNs : ∀ {b : Addr} {mm : Str → Option Value}, s.heap.Ns b mm → (hidT s.heap H).Ns b mm := by
    rintro b mm ⟨o, es, ep, z1, z2, z3⟩
    exact ⟨o, es, ep, hidT_get z1 (nodict z1 z2), z2, z3⟩
  have inBase : K.In (hidT s.heap H) := by
    intro b o z
    refine hidT_get (KX b o z) ?_
    rcases hH b with q | ⟨q1, q2⟩
    · exact q
    · subst q1
      rw [hK (by rw [q2]; simp)] at z
      cases z
  have md : Mod K mg (hidT s.heap H) := by
    obtain ⟨mc, l1, l2⟩ := hlim
    exact ⟨inBase, keepNs hns, ⟨mb, keepNs hb, hbb⟩, ⟨mc, keepNs l1, l2⟩⟩
  have env : Env0 P w K mg (hidT s.heap H) callerA [] s H :=
    { frames := rfl, mod := md, bs := fun b o z => of_hidT z, bsz := Nat.le_of_eq (hidT_size _ _), funs := trivial, frf := (by intro b z; cases z), hok := ok, bare := .of_eq hg }
  obtain ⟨S', hS⟩ := hcs
  have post : Post K mg (fun _ _ _ => False) (Rp K mg) m H (cs [.loc 0] [.frz (ns.map D.int)]) (fun v _ => v = .bl true) := by
    rw [hS]
    intro m' H' v _ _ r
    cases r
    rfl
  obtain ⟨f, fd, ps, hm, hk, hl, hbd, _, FG⟩ := (F _ inBase (keepNs hns)).ex
  have ef := hfa.symm.trans hm
  cases ef
  have hbs : BindsTo s fd ⟨[.ref a], []⟩ (ps.zip [.ref a]) := by
    have z := hbd s [.ref a] KX (by simpa using hl.symm)
    rw [List.append_nil] at z
    exact z
  refine codeAny_mono (FG.run callerA [] s H ⟨[.ref a], []⟩ [.ref a] [.ref a] m [.loc 0] _ _ _ rfl hr env hbs (.cons rfl .nil) ra (.cons rp .nil) post) ?_
  intro r s' h
  cases r with
  | error e =>
    obtain ⟨_, _, _, _, _, _, _, _, _, _, _, _, z⟩ := h
    exact z.elim
  | ok fl =>
    cases fl with
    | ret u =>
      obtain ⟨v, H', os, bare, un, ok', rv, q⟩ := h
      have q' : v = V.bl true := q
      subst q'
      have rv' : u = Value.bool true := rv
      subst rv'
      refine ⟨rfl, PySem.OldK.of_keep ?_, os, bare⟩
      intro b o z
      cases q : H b with
      | none => exact un.keep b o z q (by intro q; cases q) (by simp)
      | some u =>
        obtain ⟨e1, e2⟩ := only b u q
        subst e2
        have z2 := un.frzs b ob _ q
        obtain ⟨g1, _⟩ := ok b _ q
        obtain ⟨g2, _⟩ := ok' b _ z2
        rw [z] at g1
        cases g1
        exact g2
    | next => exact False.elim h
    | brk => exact False.elim h
    | cont => exact False.elim h
theorem law_g {P : Program} {w : World} {K : PySem.W.Frag} {mg mb : Str → Option Value} {k : Nat} {fa a : Addr} {x : Str} {kw : List (Nat × List Str × List Nat)} {cs : List D → Sto → R D} {s : Shared} {vs : List Value} {ns : List Int}
    (KX : K.In s.heap) (hns : s.heap.Ns mainGlobals mg) (hb : s.heap.Ns builtinsNs mb) (hbb : ∀ x : Str, x ≠ "__name__" → mb x = bootBuiltins x) (hlim : s.heap.NoLimit) (hg : s.gens = #[])
    (ha : s.heap.get? a = some { cls := .type "list", data := .seq vs.toArray }) (hi : IntsAre vs ns) (hl : ns.length ≤ sizeLine) (hr : Room k callerA)
    (hfa : mg x = some (.ref fa)) (F : ∀ base : Heap, K.In base → base.Ns mainGlobals mg → FnAt P w K mg base k x 1 kw cs)
    (hcs : ∃ S', cs [.loc 0] [.frz (ns.map D.int)] = .ok (.bl true) S') : Told P w fa a s := by
  have rv := vals_ints hi
  cases hk : K.lookup a with
  | some o =>
    have e := KX a o hk
    rw [ha] at e
    cases e
    refine law_core (H := fun _ => none) (m := [(a, true)]) KX hns hb hbb hlim hg ha rfl hr hfa F hcs (fun _ => .inl rfl) (fun z => absurd rfl z) (fun b u z => by cases z) ⟨rfl, ?_, ?_⟩ (.loc (b := true) rfl)
    · intro i j c h1 h2
      match i, h1 with
      | 0, h1 => cases h1
    · intro i p so h1 h2
      match i, h1, h2 with
      | 0, h1, h2 =>
        cases h1
        cases h2
        refine ⟨ns.map V.int, .inr ⟨rfl, _, vs.toArray, _, hk, rfl, rfl, rfl, ?_, by simpa using rv⟩, rps_ints ns⟩
        rw [List.size_toArray, hi.length]
        exact hl
  | none =>
    have at_a : (fun b : Addr => if b = a then some (HO.frz { cls := .type "list", data := .seq vs.toArray } (.lst (ns.map V.int))) else none) a = some (.frz { cls := .type "list", data := .seq vs.toArray } (.lst (ns.map V.int))) := if_pos rfl
    refine law_core (H := fun b => if b = a then some (.frz { cls := .type "list", data := .seq vs.toArray } (.lst (ns.map V.int))) else none) (m := [(a, false)]) KX hns hb hbb hlim hg ha rfl hr hfa F hcs ?_ (fun _ => hk) ?_ ⟨rfl, ?_, ?_⟩ (.loc (b := false) rfl)
    · intro b
      by_cases q : b = a
      · exact .inr ⟨q, if_pos q⟩
      · exact .inl (if_neg q)
    · intro b u z
      by_cases q : b = a
      · subst q
        have z' := at_a.symm.trans z
        cases z'
        exact ⟨ha, by rw [List.length_map]; exact hl, vs, _, rv, ha⟩
      · have z' := (if_neg q).symm.trans z
        cases z'
    · intro i j c h1 h2
      match i, j, h1, h2 with
      | 0, 0, _, _ => rfl
    · intro i p so h1 h2
      match i, h1, h2 with
      | 0, h1, h2 =>
        cases h1
        cases h2
        exact ⟨ns.map V.int, .inl ⟨rfl, _, at_a⟩, rps_ints ns⟩
theorem walk_e {l : PySem.W.OpenLaw} {n k : Nat} {q : Program} {loose : List Str} {XP : (Str → Option Value) → Heap → Prop} {YP : World → Heap → Prop} {d : DefRec} {x : Str} {kw : List (Nat × List Str × List Nat)} {cs : List D → Sto → R D}
    (hn : l.most = some n) (hn2 : n ≤ sizeLine) (hdf : d.params.defaults = []) (hx : d.name = x) (hr : Room k callerA)
    (F : ∀ (w : World) (mg : Str → Option Value) (h : Heap), YP w h → h.Ns mainGlobals mg →
      ∃ K : PySem.W.Frag, K.In h ∧ ∀ base : Heap, K.In base → base.Ns mainGlobals mg → FnAt l.prog w K mg base k x 1 kw cs)
    (hcs : ∀ ns : List Int, ns.length ≤ n → ∃ S', cs [.loc 0] [.frz (ns.map D.int)] = .ok (.bl true) S') :
    PySem.W.WalkO q loose XP YP l.row.toRowW d [] (fun f vs => PySem.call f vs) := by
  refine Att.attach_call hn hdf ?_
  intro w s₀ s₁ mg mb fa o pm cd doc a vs ns G Y ho hd hcd hmg hobj hints hlen hgens
  obtain ⟨K, KX, hF⟩ := F w mg _ Y G.T.g
  exact law_g KX G.T.g G.T.b G.T.builtins G.T.nolimit hgens hobj hints (Nat.le_trans hlen hn2) hr (hx ▸ hmg) hF (hcs ns hlen)
/-! ### one more level -/
theorem post_end {K : PySem.W.Frag} {mg : Str → Option Value} {E : XK} {m : Mp} {H : Hp} {r : Rs} {Q : VK} (h : Post K mg E (Rp K mg) m H (endR r) Q) : PostS K mg (fun c d _ H' => E c d H') m H r { nx := fun _ H' => Q .non H', rt := Q } := by
  cases r with
  | nx ρ S => exact fun m' H' σ l ra _ => h m' H' .non l ra .non
  | rt d S => exact h
  | exc c p ρ S => exact fun m' H' σ cls dd l ra _ rx => h m' H' cls dd l ra rx
  | bk _ _ => exact h.elim
  | ct _ _ => exact h.elim
  | bad => exact h
theorem relE_start {K : PySem.W.Frag} {mg : Str → Option Value} {m : Mp} {H : Hp} {N : List Str} {n : Nat} {ds : List D} {vs : List V} (hn : N.length = n) (rs : Rps K mg m H ds vs) : RelE K mg m H (start N vs) (startE n ds) := by
  unfold L2.start startE
  refine ⟨by simp [rs.length, hn], fun i d e => ?_⟩
  by_cases c : i < ds.length
  · rw [List.getElem?_append_left (by simpa using c), List.getElem?_map] at e
    cases q : ds[i]? with
    | none => rw [q] at e; cases e
    | some d' =>
      rw [q] at e
      cases e
      obtain ⟨v, h1, h2⟩ := rs.get q
      refine ⟨v, ?_, h2⟩
      rw [List.getElem?_append_left (by rw [List.length_map, rs.length]; exact c), List.getElem?_map, h1]
      rfl
  · rw [List.getElem?_append_right (by simpa using Nat.le_of_not_lt c), List.getElem?_replicate] at e
    split at e <;> cases e
structure NoB (mg : Str → Option Value) : Prop where
  no : ∀ x ∈ bnames, mg x = none
/-- a def of the text at one level more: der is its derivation -/
theorem def_ok {P : Program} {w : World} {K : PySem.W.Frag} {mg : Str → Option Value} {base : Heap} {k : Nat} {f : Addr} {x qual : Str} {st : Stmt} {fdd : FuncData} {N ps : List Str} {i n : Nat} {fd : Fd} {C : CallSem} {G : Nat → Option D} {T : Nat → Option Fd}
    (nob : NoB mg) (F : Fun K x qual st f fdd) (sc : FnScope N ps (defScope st)) (hT : T i = some fd) (hps : ps.length = fd.np) (hN : N.length = fd.n) (hm : mg x = some (.ref f)) (hb : Binds K fdd ps []) {kw : List (Nat × List Str × List Nat)} (hkb : ∀ q ∈ kw, KB fdd ps q)
    (der : ∀ (cdv : Value) (A : Around) (outer : List PySem.Env) (s : Shared) (H : Hp) (E : XK), Ctx (cxOf (L2.CX P w) P w K mg base N qual (defScope st) f cdv A outer s H E) → Room k (cxOf (L2.CX P w) P w K mg base N qual (defScope st) f cdv A outer s H E).A →
      Takes (cxOf (L2.CX P w) P w K mg base N qual (defScope st) f cdv A outer s H E) (fun c d _ H' => E c d H') →
      PassesOwn (model P w) (A.deeper (envOfC qual (defScope st) s.heap.objs.size f cdv)) (envOfC qual (defScope st) s.heap.objs.size f cdv) (cxOf (L2.CX P w) P w K mg base N qual (defScope st) f cdv A outer s H E).xe →
      PSs (cxOf (L2.CX P w) P w K mg base N qual (defScope st) f cdv A outer s H E) (defBody st) (tS (cxOf (L2.CX P w) P w K mg base N qual (defScope st) f cdv A outer s H E) n C G (fun c d _ H' => E c d H') fd.body)) :
    FnAt P w K mg base (k + 1) x fd.np kw (fun ds S => if ds.length = fd.np then endR (run n C G fd.body (startE fd.n ds) S) else .bad) := by
  refine ⟨f, fdd, ps, hm, F.kp, hps, hb, hkb, fnG_of F sc (fun ds S h => ?_) ?_⟩
  · by_cases c : ds.length = fd.np
    · rw [c, hps]
    · rw [if_neg c] at h
      exact absurd rfl h
  · intro cdv A outer s H vs m ds S Q E hg room ra rs post
    have c : ds.length = fd.np := by
      by_cases c : ds.length = fd.np
      · exact c
      · rw [if_neg c] at post
        exact post.elim
    rw [if_pos c] at post
    refine ⟨_, der cdv A outer s H E ⟨rfl, ?_, sc.nd, hg, nob.no⟩ room (takes_of rfl rfl rfl rfl) (passes_of rfl), m, _, S, ra, relE_start hN rs, post_end post⟩
    have hu := room.un
    show (A.deeper (envOfC qual (defScope st) s.heap.objs.size f cdv)).units + 100 < cLine
    omega
/-! ### what is asked for now and then -/
section
open PySem.PyData
mutual
theorem shown_le : ∀ p : PyData, p.showable = true → p.canLay0 = true → p.shown.length ≤ shB p
  | .none, _, _ => by decide +kernel
  | .bool b, _, _ => by cases b <;> decide +kernel
  | .int i, h, _ => by
    have h' : i.natAbs.log2 < 1920 := of_decide_eq_true (by simpa only [PyData.showable] using h)
    simp only [PyData.shown, shB]
    have := int_text_length_le (a := i) (k := i.natAbs.log2 + 1) (by omega) (by omega)
    rw [PySem.ofString_length]
    omega
  | .str x, _, _ => by simp only [PyData.shown, shB]; exact Nat.le_refl _
  | .list xs, h, h2 => by
    have ih := shown_les xs (by simpa only [PyData.showable] using h) (by simpa only [PyData.canLay0] using h2)
    simp only [PyData.shown, shB]
    have := listText_len_le (shownAll xs)
    rw [shownAll_length] at this
    omega
  | .tuple xs, h, h2 => by
    have ih := shown_les xs (by simpa only [PyData.showable] using h) (by simpa only [PyData.canLay0] using h2)
    simp only [PyData.shown, shB]
    have := PySem.fmt_text (shownAll xs)
    have e : piled (shownAll xs) = ((shownAll xs).map (·.length)).sum + 2 * xs.length := piled_eq xs
    omega
  | .dict kvs, _, h2 => by simp only [PyData.canLay0] at h2; cases h2
theorem shown_les : ∀ xs : List PyData, PyData.showableAll xs = true → PyData.canLayAll0 xs = true → ((shownAll xs).map (·.length)).sum + 2 * xs.length ≤ shBs xs
  | [], _, _ => by simp [shownAll, shBs]
  | x :: xs, h, h2 => by
    simp only [PyData.showableAll, Bool.and_eq_true] at h
    simp only [PyData.canLayAll0, Bool.and_eq_true] at h2
    have h3 := shown_le x h.1 h2.1
    have ih := shown_les xs h.2 h2.2
    simp only [shownAll, shBs, List.map_cons, List.sum_cons, List.length_cons]
    omega
theorem shownAll_length : ∀ xs : List PyData, (shownAll xs).length = xs.length
  | [] => by simp [shownAll]
  | x :: xs => by simp [shownAll, shownAll_length xs]
theorem piled_eq : ∀ xs : List PyData, piled (shownAll xs) = ((shownAll xs).map (·.length)).sum + 2 * xs.length
  | [] => by simp [shownAll, piled]
  | x :: xs => by
    have ih := piled_eq xs
    unfold piled at ih ⊢
    simp only [shownAll, List.map_cons, List.sum_cons, List.length_cons]
    omega
end
end
section
variable {X : Cx} {C : CallSem} {G : Nat → Option D} {W : WX} {pos : Pos} {n : Nat}
theorem bi_repr (cx : Ctx X) : CallR X (.builtin "repr") (rBi X.K X.mg .repr) := by
  intro pins s σ H xs us Q I r ⟨W, m, S, ds, ra, rs, p⟩
  cases ds with
  | nil => exact p.elim
  | cons d ds =>
  cases ds with
  | cons _ _ => exact p.elim
  | nil =>
    obtain ⟨x, rfl, rx⟩ := rps1 rs
    obtain ⟨z, hz, p'⟩ := post_opt (show Post X.K X.mg W (Rp X.K X.mg) m H (R.opt (repD d S) S) Q from p)
    have hz' : d ≠ .non ∧ ((toP S 50 d).bind fun p => if repOk p then some (D.str p.shown) else none) = some z := by
      cases d <;> first | exact ⟨(fun z => nomatch z), hz⟩ | cases hz
    obtain ⟨p0, hz'⟩ := hz'
    cases hp : toP S 50 d with
    | none => rw [hp] at hz'; cases hz'
    | some pd =>
      rw [hp] at hz'
      have hz2 : (if repOk pd then some (D.str pd.shown) else none) = some z := hz'
      by_cases c : repOk pd = true
      · rw [if_pos c] at hz2
        cases hz2
        unfold repOk at c
        simp only [Bool.and_eq_true, decide_eq_true_eq] at c
        obtain ⟨⟨⟨c1, c2⟩, c3⟩, c4⟩ := c
        have q : Q (.str pd.shown) H := p'.now ra (.str _)
        have dp := toP_dp ra 50 d x pd rx hp
        obtain ⟨u, rfl, ru⟩ := vals1 r
        have ref : ∀ a, x = .ref a → wpAny (model X.prog X.w) X.A (call (.builtin "repr") [u]) (EP X pins σ Q) X.xe s := by
          intro a ea
          subst ea
          have ru' : u = Value.ref a := ru
          subst ru'
          obtain ⟨as, rd⟩ := Dp.reads I pd (.ref a) (.ref a) dp rfl
          have hu := cx.hu
          exact repr_of_reads' rd c1 (PySem.PyData.noDict_hsm (PySem.PyData.hasDict_of_canLay pd c2)) cx.g (by omega) (fun _ _ e => e) (fun h' t tk k => ⟨.str _, H, I.kept (t' := tk) k, ⟨t, rfl⟩, q⟩) (Nat.le_trans (shown_le pd c1 c2) c4)
        cases rx with
        | tup _ _ => exact ref _ rfl
        | loc _ => exact ref _ rfl
        | int i =>
          obtain ⟨t, rfl⟩ := ru
          cases dp
          exact PySem.P.repr_of_int (of_decide_eq_true (by simpa only [PyData.showable] using c1)) ⟨.str _, H, I.tok _, ⟨_, rfl⟩, by simpa only [PyData.shown] using q⟩
        | bl b =>
          have ru' : u = Value.bool b := ru
          subst ru'
          cases dp
          exact PySem.P.repr_of_bool ⟨.str _, H, I.tok _, ⟨_, rfl⟩, by simpa only [PyData.shown] using q⟩
        | str y =>
          obtain ⟨t, rfl⟩ := ru
          cases dp
          have e := shown_le (.str y) c1 c2
          exact PySem.P.repr_of_str ⟨.str _, H, I.tok _, ⟨_, rfl⟩, by simpa only [PyData.shown] using q⟩ (Nat.le_trans (by simpa only [PyData.shown] using e) c4)
        | non => exact absurd rfl p0
        | ty t => cases hp
        | fn h => cases hp
      · rw [if_neg c] at hz2
        cases hz2
/-- what the text lays of an exception's class without a maker of its own -/
structure ExTxt (K : PySem.W.Frag) (mg : Str → Option Value) (x : Str) : Prop where
  ex : ∃ Cl : Addr, mg x = some (.ref Cl) ∧ PySem.W.excIn K Cl [.type "ValueError", .type "Exception", .type "BaseException", .type "object"] "ValueError.__new__" = true ∧ PySem.W.keepIn K (.ref Cl) = true ∧
    PySem.W.subIn K (.ref Cl) (.type "BaseException") = some true ∧ PySem.W.typeIn K (.ref Cl) = some (.type "type")
theorem pmk_zero {Cl : Addr} {bmB : List Value} {B newId initId : String} {x : Str} {p pos' : Pos} (F : ExcBaseFacts B newId initId bmB) (q : PySem.W.excIn X.K Cl bmB newId = true) (gC : X.mg x = some (.ref Cl)) (kC : PySem.W.keepIn X.K (.ref Cl) = true) (r : Raises X (.ref Cl)) (hg : Gl X x)
    (hdb : (x == ("__debug__" : Str)) = false := by decide) : PMk X (.Call (.Name x p) [] [] pos') (fun _ H Q => Q (.ref Cl) none H) := by
  intro pins s σ H Q I h
  refine wpAny_Call_Name_kw (ld_glob I hg gC ?_ hdb)
  refine PySem.W.callWith_K0 I.kIn kC ?_
  show wpAny _ _ (call (.ref Cl) []) _ _ _
  obtain ⟨bm, N, nm, qn, bs, hdct, sn, sub, ab, col, dd, k0, k1, k2, k3, k5, mN, hC, hN, hni, T⟩ := exc_obj I.kIn q
  refine wpAny_call_exc_subT F T hC hN hni (fun h' e hm => ?_) (by show 0 ≤ sizeLine; omega)
  exact mk_of I hm r h (I.hok.gone hm.new)
theorem ds_raise0 {c : Nat} {x : Str} {p pos' pos2 : Pos} (hx : exNames[c]? = some x) (xt : ExTxt X.K X.mg x) (cx : Ctx X) (tk : Takes X W) (hg : Gl X x) (hdb : (x == ("__debug__" : Str)) = false := by decide) :
    PS X (.Raise (some (.Call (.Name x p) [] [] pos')) none pos2) (tS X n C G W (.rse c .nil)) := by
  obtain ⟨Cl, gC, q, kC, sb, ty⟩ := xt.ex
  exact PS_imp (ps_raise cx.calm tk (pmk_zero PySem.F.excBase_ValueError q gC kC (raises_own sb ty) hg hdb)) fun D' σ H ⟨m, ρ, S, ra, re, p⟩ => p m H σ (.ref Cl) none (Le.refl m H) ra re ⟨x, Cl, hx, gC, rfl, rfl, rfl⟩
end
/-! ### names of the built-ins -/
theorem m_len : ("len" : Str) ∈ bnames := by decide +kernel
theorem m_abs : ("abs" : Str) ∈ bnames := by decide +kernel
theorem m_sum : ("sum" : Str) ∈ bnames := by decide +kernel
theorem m_min : ("min" : Str) ∈ bnames := by decide +kernel
theorem m_max : ("max" : Str) ∈ bnames := by decide +kernel
theorem m_all : ("all" : Str) ∈ bnames := by decide +kernel
theorem m_any : ("any" : Str) ∈ bnames := by decide +kernel
theorem m_sorted : ("sorted" : Str) ∈ bnames := by decide +kernel
theorem m_repr : ("repr" : Str) ∈ bnames := by decide +kernel
theorem m_int : ("int" : Str) ∈ bnames := by decide +kernel
theorem m_str : ("str" : Str) ∈ bnames := by decide +kernel
theorem m_list : ("list" : Str) ∈ bnames := by decide +kernel
theorem m_tuple : ("tuple" : Str) ∈ bnames := by decide +kernel
theorem m_set : ("set" : Str) ∈ bnames := by decide +kernel
theorem m_isinstance : ("isinstance" : Str) ∈ bnames := by decide +kernel
theorem m_range : ("range" : Str) ∈ bnames := by decide +kernel
theorem m_zip : ("zip" : Str) ∈ bnames := by decide +kernel
theorem m_enumerate : ("enumerate" : Str) ∈ bnames := by decide +kernel
theorem m_bool : ("bool" : Str) ∈ bnames := by decide +kernel
theorem m_dict : ("dict" : Str) ∈ bnames := by decide +kernel
theorem b_len : bootBuiltins "len" = some (.builtin "len") := by decide +kernel
theorem b_abs : bootBuiltins "abs" = some (.builtin "abs") := by decide +kernel
theorem b_sum : bootBuiltins "sum" = some (.builtin "sum") := by decide +kernel
theorem b_min : bootBuiltins "min" = some (.builtin "min") := by decide +kernel
theorem b_max : bootBuiltins "max" = some (.builtin "max") := by decide +kernel
theorem b_all : bootBuiltins "all" = some (.builtin "all") := by decide +kernel
theorem b_any : bootBuiltins "any" = some (.builtin "any") := by decide +kernel
theorem b_sorted : bootBuiltins "sorted" = some (.builtin "sorted") := by decide +kernel
theorem b_repr : bootBuiltins "repr" = some (.builtin "repr") := by decide +kernel
theorem b_int : bootBuiltins "int" = some (.type "int") := by decide +kernel
theorem b_str : bootBuiltins "str" = some (.type "str") := by decide +kernel
theorem b_list : bootBuiltins "list" = some (.type "list") := by decide +kernel
theorem b_tuple : bootBuiltins "tuple" = some (.type "tuple") := by decide +kernel
theorem b_set : bootBuiltins "set" = some (.type "set") := by decide +kernel
theorem b_isinstance : bootBuiltins "isinstance" = some (.builtin "isinstance") := by decide +kernel
theorem b_range : bootBuiltins "range" = some (.type "range") := by decide +kernel
theorem b_zip : bootBuiltins "zip" = some (.type "zip") := by decide +kernel
theorem b_enumerate : bootBuiltins "enumerate" = some (.type "enumerate") := by decide +kernel
theorem b_bool : bootBuiltins "bool" = some (.type "bool") := by decide +kernel
theorem b_dict : bootBuiltins "dict" = some (.type "dict") := by decide +kernel
end CC

namespace CC
open PySem PySem.Spec PyProof.Rows L2
/-! ### what the text lays -/
structure FnTxt (K : PySem.W.Frag) (mg : Str → Option Value) (x : Str) (st : Stmt) (ps : List Str) (kw : List (Nat × List Str × List Nat)) : Prop where
  ex : ∃ (f : Addr) (fd : FuncData), mg x = some (.ref f) ∧ Fun K x x st f fd ∧ Binds K fd ps [] ∧ ∀ q ∈ kw, KB fd ps q
theorem at_zero {P : Program} {w : World} {K : PySem.W.Frag} {mg : Str → Option Value} {base : Heap} {k : Nat} {x : Str} {st : Stmt} {ps : List Str} {kw : List (Nat × List Str × List Nat)} (t : FnTxt K mg x st ps kw) (cs : List D → Sto → R D) (hz : ∀ ds S, cs ds S = .bad) : FnAt P w K mg base k x ps.length kw cs := by
  obtain ⟨f, fdd, hm, F, hb, hkb⟩ := t.ex
  exact ⟨f, fdd, ps, hm, F.kp, rfl, hb, hkb, ⟨fun ds S h => absurd (hz ds S) h, fun A outer s H args us vs m ds S Q E _ _ _ _ _ _ _ p => by rw [hz] at p; exact p.elim⟩⟩
section
variable {K : PySem.W.Frag} {mg : Str → Option Value} {h : Heap}
theorem fnTxt_of {x : Str} {d : He.FnD} {st : Stmt} {ps : List Str} {kw : List (Nat × List Str × List Nat)} (X : K.In h) (G0 : h.Ns mainGlobals mg) (c1 : (He.Fa.glo x).ok K = true) (c2 : (He.Fa.keep x).ok K = true)
    (c : ∃ oc od osl kV doc pm an cdv ct, K.lookup (He.fAd K d.at_) = some ⟨oc, od, .func (PySem.W.fnOf d.name d.qual d.params d.body d.scope .none kV doc pm an cdv ct), osl⟩ ∧ PySem.W.codeIn K cdv d.qual = true)
    (hb : ∀ (kV doc pm : Value) (an : Option Addr) (cdv ct : Value) (us : List Value), us.length = ps.length → bindArgs (PySem.W.fnOf x x (defArgs st) (defBody st) (defScope st) .none kV doc pm an cdv ct) ⟨us, []⟩ = pure (ps.zip us))
    (hkb : ∀ (kV doc pm : Value) (an : Option Addr) (cdv ct : Value) q, q ∈ kw → KB (PySem.W.fnOf x x (defArgs st) (defBody st) (defScope st) .none kV doc pm an cdv ct) ps q)
    (hd : d = ⟨(x, none), x, x, defArgs st, defBody st, defScope st⟩ := by rfl) : FnTxt K mg x st ps kw := by
  subst hd
  obtain ⟨oc, od, osl, kV, doc, pm, an, cdv, ct, l, c⟩ := c
  have F := fun_mk (st := st) l c (He.keep_ok c2)
  exact ⟨_, _, He.glo_ok X G0 c1, F, F.binds hb, fun q hq => hkb kV doc pm an cdv ct q hq⟩
theorem exTxt_of {x : Str} (X : K.In h) (G0 : h.Ns mainGlobals mg) (c1 : (He.Fa.glo x).ok K = true) (c2 : (He.Fa.exc x).ok K = true) : ExTxt K mg x := by
  obtain ⟨a, b, c, d⟩ := He.exc_ok c2
  exact ⟨_, He.glo_ok X G0 c1, a, b, c, d⟩
theorem nob_at {fa : List He.Fa} {fn : List He.FnD} (X : K.In h) (G0 : h.Ns mainGlobals mg) (c : He.SaysE fa fn K) (n : Nat) (e : ∀ i y, bnames[i]? = some y → fa[n + i]? = some (.free y)) {x : Str} (hx : x ∈ bnames) : mg x = none := by
  obtain ⟨i, hi⟩ := List.getElem?_of_mem hx
  exact He.free_ok X G0 (c.fact (n + i) (e i x hi))
theorem gok_str {x z : Str} (X : K.In h) (G0 : h.Ns mainGlobals mg) (c : (He.Fa.str x z).ok K = true) : ∃ u v, mg x = some u ∧ RelV v u ∧ ∀ m H, Rp K mg m H (.str z) v := by
  obtain ⟨t, e⟩ := He.str_ok X G0 c
  exact ⟨_, .str z, e, ⟨t, rfl⟩, fun m H => .str z⟩
theorem gok_int {x : Str} {i : Int} (X : K.In h) (G0 : h.Ns mainGlobals mg) (c : (He.Fa.int x i).ok K = true) : ∃ u v, mg x = some u ∧ RelV v u ∧ ∀ m H, Rp K mg m H (.int i) v := by
  obtain ⟨t, e⟩ := He.int_ok X G0 c
  exact ⟨_, .int i, e, ⟨t, rfl⟩, fun m H => .int i⟩
end
/-! ### try -/
def ExmTxt (K : PySem.W.Frag) (mg : Str → Option Value) (x y : Str) (b : Bool) : Prop := ∃ A B : Addr, mg x = some (.ref A) ∧ mg y = some (.ref B) ∧ PySem.W.exmOne K (.ref A) (.ref B) = some b
theorem exmTxt_of {K : PySem.W.Frag} {mg : Str → Option Value} {h : Heap} {x y : Str} {b : Bool} (X : K.In h) (G0 : h.Ns mainGlobals mg) (c1 : (He.Fa.glo x).ok K = true) (c2 : (He.Fa.glo y).ok K = true) (c3 : (He.Fa.exm x y b).ok K = true) : ExmTxt K mg x y b :=
  ⟨_, _, He.glo_ok X G0 c1, He.glo_ok X G0 c2, He.exm_ok c3⟩
section
variable {X : Cx} {C : CallSem} {G : Nat → Option D} {W : WX} {pos : Pos} {n : Nat}
theorem Ctx.tr (c : Ctx X) (pn : List (Addr × Obj)) (xe : Value → Shared → Prop) : Ctx (X.tr pn xe) := ⟨c.calm, c.hu, c.nd, c.g, c.nob⟩
def CSx (K : PySem.W.Frag) (mg : Str → Option Value) (x : Str) (cs : List (Nat × Bool)) : Prop := ∃ cl : Addr, mg x = some (.ref cl) ∧ ∀ c b, cs.lookup c = some b → ∃ y A, exNames[c]? = some y ∧ mg y = some (.ref A) ∧ PySem.W.exmOne K (.ref A) (.ref cl) = some b
theorem csx_nil {K : PySem.W.Frag} {mg : Str → Option Value} {x : Str} {cl : Addr} (t : mg x = some (.ref cl)) : CSx K mg x [] := ⟨cl, t, fun _ _ h => by cases h⟩
theorem csx_cons {K : PySem.W.Frag} {mg : Str → Option Value} {x y : Str} {c : Nat} {b : Bool} {cs : List (Nat × Bool)} (hy : exNames[c]? = some y) (t : ExmTxt K mg y x b) (r : CSx K mg x cs) : CSx K mg x ((c, b) :: cs) := by
  obtain ⟨cl, h1, h2⟩ := r
  obtain ⟨A, B, t1, t2, t3⟩ := t
  rw [h1] at t2
  cases t2
  refine ⟨cl, h1, fun c' b' h => ?_⟩
  rw [List.lookup_cons] at h
  by_cases e : c' = c
  · subst e
    simp at h
    subst h
    exact ⟨y, A, hy, t1, t3⟩
  · have e' : (c' == c) = false := by simpa using e
    rw [e'] at h
    exact h2 c' b' h
theorem ds_try {x : Str} {body suite : List Stmt} {b₀ : Stmt} {np pos' : Pos} {A1 A2 : Sx} {cs : List (Nat × Bool)} (hs : X.stack = X.env :: X.outer) (hf : X.env.frame = some X.env.locals) (hc : CSx X.K X.mg x cs) (tk : Takes X W) (hg : Gl X x)
    (hb : ∀ (W' : WX) (pn : List (Addr × Obj)) (xe : Value → Shared → Prop), Takes (X.tr pn xe) W' → PassesOwn (model X.prog X.w) X.A X.env xe → PSs (X.tr pn xe) body (tS (X.tr pn xe) n C G W' A1))
    (hsu : ∀ (a : Addr) (oe : Obj) (pn : List (Addr × Obj)), PSs (X.suite a ((a, oe) :: pn)) (b₀ :: suite) (tS (X.suite a ((a, oe) :: pn)) n C G W A2)) (hdb : (x == ("__debug__" : Str)) = false := by decide) :
    PS X (.Try body [.ExceptHandler (some (.Name x np)) none (b₀ :: suite) pos'] [] [] pos) (tS X n C G W (.tryS A1 cs A2)) := by
  obtain ⟨cl, hm, hcs⟩ := hc
  refine PS_imp (ps_try_only (x := x) (c := .ref cl) (Wout := W) (tb := fun W' => tS X n C G W' A1) (ts := fun _ _ _ => tS X n C G W A2) hs hf ⟨hg, hdb, .inl hm⟩ tk (fun W' pn xe tk' ow => hb W' pn xe tk' ow) (fun a oe cls d pn _ _ => hsu a oe pn)) ?_
  rintro D' σ H ⟨m, ρ, S, ra, re, p⟩
  refine ⟨m, ρ, S, ra, re, ?_⟩
  have p' : PostS X.K X.mg W m H (match run n C G A1 ρ S with
    | .exc c' q ρ1 S1 => match cs.lookup c' with
      | some true => run n C G A2 ρ1 S1
      | some false => .exc c' q ρ1 S1
      | none => .bad
    | r => r) D' := p
  cases q : run n C G A1 ρ S with
  | exc c' pl ρ1 S1 =>
    rw [q] at p'
    intro m' H' σ' cls dd l ra' re' rx
    have rx0 := rx
    obtain ⟨y, A, hy, hA, e1, _⟩ := rx
    have p2 : PostS X.K X.mg W m H (match cs.lookup c' with
      | some true => run n C G A2 ρ1 S1
      | some false => .exc c' pl ρ1 S1
      | none => .bad) D' := p'
    cases hl : cs.lookup c' with
    | none => rw [hl] at p2; exact p2.elim
    | some t =>
      rw [hl] at p2
      obtain ⟨y', A', hy', hA', hx⟩ := hcs c' t hl
      rw [hy] at hy'
      cases hy'
      rw [hA] at hA'
      cases hA'
      rw [e1]
      refine ⟨t, hx, ?_, ?_⟩
      · intro ht a _
        subst ht
        exact ⟨m', ρ1, S1, ra', re', PostS.move l p2⟩
      · intro ht
        subst ht
        have z := p2 m' H' σ' cls dd l ra' re' rx0
        rw [e1] at z
        exact z
  | nx _ _ => rw [q] at p'; exact p'
  | rt _ _ => rw [q] at p'; exact p'
  | bk _ _ => rw [q] at p'; exact p'
  | ct _ _ => rw [q] at p'; exact p'
  | bad => rw [q] at p'; exact p'
end
/-! ### constants of the text: tuples, tables -/
mutual
/-- a written value is this datum -/
def valK (K : PySem.W.Frag) : D → Value → Bool
  | .str x, .str y _ => decide (x = y)
  | .int x, .int y _ => decide (x = y)
  | .tup ds, .ref a => (match K.lookup a with
    | some ⟨.type c, _, .seq its _, _⟩ => decide (c = "tuple") && (decide (its.size ≤ sizeLine) && valKs K ds its.toList)
    | _ => false)
  | _, _ => false
def valKs (K : PySem.W.Frag) : List D → List Value → Bool
  | [], [] => true
  | d :: ds, u :: us => valK K d u && valKs K ds us
  | _, _ => false
end
section
variable {K : PySem.W.Frag} {mg : Str → Option Value}
mutual
theorem valK_ok : ∀ (d : D) (u : Value), valK K d u = true → ∃ v, RelV v u ∧ ∀ m H, Rp K mg m H d v
  | .str x, u, h => by
    cases u with
    | str y t =>
      unfold valK at h
      have e := of_decide_eq_true h
      subst e
      exact ⟨.str x, ⟨t, rfl⟩, fun m H => .str x⟩
    | _ => simp [valK] at h
  | .int x, u, h => by
    cases u with
    | int y t =>
      unfold valK at h
      have e := of_decide_eq_true h
      subst e
      exact ⟨.int x, ⟨t, rfl⟩, fun m H => .int x⟩
    | _ => simp [valK] at h
  | .tup ds, u, h => by
    cases u with
    | ref a =>
      unfold valK at h
      split at h
      · rename_i c od its n osl q
        simp only [Bool.and_eq_true, decide_eq_true_eq] at h
        obtain ⟨h1, h2, h3⟩ := h
        obtain ⟨vs, r, hv⟩ := valKs_ok ds its.toList h3
        exact ⟨.ref a, rfl, fun m H => .tup (.inr ⟨_, its, n, q, congrArg Value.type h1, rfl, h2, r⟩) (hv m H)⟩
      · cases h
    | _ => simp [valK] at h
  | .non, u, h => by cases u <;> simp [valK] at h
  | .bl _, u, h => by cases u <;> simp [valK] at h
  | .loc _, u, h => by cases u <;> simp [valK] at h
  | .ty _, u, h => by cases u <;> simp [valK] at h
  | .fn _, u, h => by cases u <;> simp [valK] at h
theorem valKs_ok : ∀ (ds : List D) (us : List Value), valKs K ds us = true → ∃ vs, Vals vs us ∧ ∀ m H, Rps K mg m H ds vs
  | [], [], _ => ⟨[], .nil, fun _ _ => .nil⟩
  | [], _ :: _, h => by simp [valKs] at h
  | _ :: _, [], h => by simp [valKs] at h
  | d :: ds, u :: us, h => by
    unfold valKs at h
    simp only [Bool.and_eq_true] at h
    obtain ⟨v, r, hv⟩ := valK_ok d u h.1
    obtain ⟨vs, rs, hvs⟩ := valKs_ok ds us h.2
    exact ⟨v :: vs, .cons r rs, fun m H => .cons (hv m H) (hvs m H)⟩
end
end
/-- the module's name x is this datum -/
def conK (K : PySem.W.Frag) (q : Str × D) : Bool := match PySem.W.nsIn K mainGlobals q.1 with
  | some (some u) => valK K q.2 u
  | _ => false
theorem conK_ok {K : PySem.W.Frag} {mg : Str → Option Value} {h : Heap} (X : K.In h) (G0 : h.Ns mainGlobals mg) {x : Str} {d : D} (c : conK K (x, d) = true) : ∃ u v, mg x = some u ∧ RelV v u ∧ ∀ m H, Rp K mg m H d v := by
  unfold conK at c
  split at c
  · rename_i u q
    obtain ⟨v, r, hv⟩ := valK_ok d u c
    exact ⟨u, v, PySem.W.mg_of X G0 q, r, hv⟩
  · cases c
/-- the table at the module's name x -/
def tabK (K : PySem.W.Frag) (q : Str × List (Str × D)) : Bool := q.2.all fun r => match PySem.W.nsIn K (He.ga K q.1) r.1 with
  | some (some u) => valK K r.2 u
  | _ => false
structure GdTxt (K : PySem.W.Frag) (mg : Str → Option Value) (w : World) (x : Str) (t : List (Str × D)) : Prop where
  ex : ∃ (d : Addr) (es : Array DictEntry) (n : Nat), mg x = some (.ref d) ∧ KDict K w d es n ∧ ∀ z dv, t.lookup z = some dv → ∃ u0 v0, PySem.W.nsIn K d z = some (some u0) ∧ RelV v0 u0 ∧ ∀ m H, Rp K mg m H dv v0
theorem lookup_in {α β : Type} [BEq α] [LawfulBEq α] {a : α} {b : β} : ∀ {l : List (α × β)}, l.lookup a = some b → (a, b) ∈ l
  | [], h => by cases h
  | (x, y) :: l, h => by
    rw [List.lookup_cons] at h
    by_cases e : (a == x) = true
    · rw [e] at h
      cases h
      rw [eq_of_beq e]
      exact List.mem_cons_self
    · rw [Bool.eq_false_iff.mpr e] at h
      exact List.mem_cons_of_mem _ (lookup_in h)
theorem gdTxt_of {K : PySem.W.Frag} {mg : Str → Option Value} {h : Heap} {w : World} {x : Str} {t : List (Str × D)} (X : K.In h) (G0 : h.Ns mainGlobals mg) (c : (He.Fa.glo x).ok K = true) (kd : ∃ es n, KDict K w (He.ga K x) es n) (ct : tabK K (x, t) = true) : GdTxt K mg w x t := by
  obtain ⟨es, n, kd⟩ := kd
  refine ⟨_, es, n, He.glo_ok X G0 c, kd, fun z dv hz => ?_⟩
  have := List.all_eq_true.mp ct _ (lookup_in hz)
  split at this
  · rename_i u q
    obtain ⟨v, r, hv⟩ := valK_ok (mg := mg) dv u this
    exact ⟨u, v, q, r, hv⟩
  · cases this
section
variable {X : Cx} {C : CallSem} {G : Nat → Option D} {W : WX} {pos : Pos} {n : Nat}
theorem de_gdx {x : Str} {p : Pos} {e : Expr} {t : List (Str × D)} {A : Xp} (gt : GdTxt X.K X.mg X.w x t) (hg : Gl X x) (he : PE X e (tD X C G W A)) (hs : PlainIx e := by exact fun _ _ => rfl) (hd : (x == ("__debug__" : Str)) = false := by decide) :
    PE X (.Subscript (.Name x p) e pos) (tD X C G W (.gdx t A)) := by
  obtain ⟨d, es, n, hm, kd, ht⟩ := gt.ex
  refine PE_imp (pe_ix ix_kdict (pe_glob hg hm (v := .ref d) rfl hd) he hs) fun σ H Q ⟨m, ρ, S, ra, re, p⟩ => ?_
  have p0 : Post X.K X.mg (fun c d H' => W c d σ H') (Rp X.K X.mg) m H ((ev C G A ρ S).bind fun x S1 => match x with
    | .str z => R.opt (t.lookup z) S1
    | _ => .bad) Q := p
  refine ⟨m, ρ, S, ra, re, Post.imp (Post.bind p0) fun y H2 ⟨m2, d2, S2, l2, ra2, r2, p2⟩ => ?_⟩
  cases d2 with
  | str z =>
    cases r2
    obtain ⟨dv, hz, p3⟩ := post_opt p2
    obtain ⟨u0, v0, h1, h2, h3⟩ := ht z dv hz
    exact ⟨d, z, v0, rfl, rfl, ⟨es, n, u0, kd.at_, kd.lit, h1, h2⟩, p3.now ra2 (h3 m2 H2)⟩
  | _ => exact p2.elim
end
/-! ### what the head tells -/
abbrev AlC : Type := He.Al × (List (Option (List (Option (Str × Int)))) × Bool)
def exK (cs : List (Str × D)) (ts : List (Str × List (Str × D))) (K : PySem.W.Frag) : Bool := (cs.all fun q => conK K q) && ts.all fun q => tabK K q
def obsC (fa : List He.Fa) (fn : List He.FnD) (cs : List (Str × D)) (ts : List (Str × List (Str × D))) (K : PySem.W.Frag) : AlC := (He.obsE fa fn K, (ts.map fun t => He.dicW K (He.ga K t.1), exK cs ts K))
def valC (fn : List He.FnD) (ts : List (Str × List (Str × D))) (w : World) : AlC := (He.valE fn, (ts.map fun t => some (He.keysIn w.params (t.2.map (·.1))), true))
def SaysC (fa : List He.Fa) (fn : List He.FnD) (cs : List (Str × D)) (ts : List (Str × List (Str × D))) (w : World) (K : PySem.W.Frag) : Prop := obsC fa fn cs ts K = valC fn ts w
def obsCG (n : Nat) (fa : List He.Fa) (fn : List He.FnD) (cs : List (Str × D)) (ts : List (Str × List (Str × D))) (g : Addr → Option Obj) : AlC := obsC fa fn cs ts (He.frG g (He.asG g n))
def hookC (n : Nat) (fa : List He.Fa) (fn : List He.FnD) (cs : List (Str × D)) (ts : List (Str × List (Str × D))) : PySem.W.Hook where
  α := AlC
  obs := fun s => obsCG n fa fn cs ts s.heap.get?
  val := fun w => valC fn ts w
  says := fun w h => ∃ K : PySem.W.Frag, K.In h ∧ SaysC fa fn cs ts w K
  of := fun _ _ e => ⟨_, He.frG_in, e⟩
  keeps := fun _ _ _ ⟨K, hK, c⟩ k => ⟨K, PySem.W.Frag.In.keeps hK k, c⟩
theorem obsCG_eq {n : Nat} {fa : List He.Fa} {fn : List He.FnD} {cs : List (Str × D)} {ts : List (Str × List (Str × D))} {g : Addr → Option Obj} {s : Shared} (h : ∀ a, g a = s.heap.get? a) : obsCG n fa fn cs ts g = (hookC n fa fn cs ts).obs s := by
  have e : g = s.heap.get? := funext h
  rw [e] <;> rfl
section
variable {fa : List He.Fa} {fn : List He.FnD} {cs : List (Str × D)} {ts : List (Str × List (Str × D))} {w : World} {K : PySem.W.Frag}
theorem SaysC.e (c : SaysC fa fn cs ts w K) : He.SaysE fa fn K := congrArg (fun z : AlC => z.1) c
theorem SaysC.con (c : SaysC fa fn cs ts w K) (i : Nat) {q : Str × D} (h : cs[i]? = some q := by rfl) : conK K q = true := by
  have e : exK cs ts K = true := congrArg (fun z : AlC => z.2.2) c
  unfold exK at e
  simp only [Bool.and_eq_true] at e
  exact List.all_eq_true.mp e.1 q (List.mem_of_getElem? h)
theorem SaysC.tabv (c : SaysC fa fn cs ts w K) (i : Nat) {q : Str × List (Str × D)} (h : ts[i]? = some q := by rfl) : tabK K q = true := by
  have e : exK cs ts K = true := congrArg (fun z : AlC => z.2.2) c
  unfold exK at e
  simp only [Bool.and_eq_true] at e
  exact List.all_eq_true.mp e.2 q (List.mem_of_getElem? h)
theorem SaysC.tab (c : SaysC fa fn cs ts w K) (i : Nat) {t : Str × List (Str × D)} (h : ts[i]? = some t := by rfl) : ∃ es n, KDict K w (He.ga K t.1) es n := by
  have e : (ts.map fun t => He.dicW K (He.ga K t.1)) = ts.map fun t => some (He.keysIn w.params (t.2.map (·.1))) := congrArg (fun z : AlC => z.2.1) c
  have e2 : (ts.map fun t => He.dicW K (He.ga K t.1))[i]? = (ts.map fun t => some (He.keysIn w.params (t.2.map (·.1))))[i]? := by rw [e]
  rw [List.getElem?_map, List.getElem?_map, h] at e2
  exact He.dicW_ok (Option.some.inj e2)
end
end CC

namespace CC
open PySem PySem.Spec PyProof.Rows L2
/-! ### what a run leads to -/
abbrev Eo : Nat → List D → Sto → Prop := fun _ _ _ => False
def WR {α : Type} (r : R α) (Q : α → Sto → Prop) (E : Nat → List D → Sto → Prop) : Prop := match r with
  | .ok a S => Q a S
  | .exc c p S => E c p S
  | .bad => False
structure Po where
  nx : Env → Sto → Prop
  rt : D → Sto → Prop
  bk : Env → Sto → Prop
  ct : Env → Sto → Prop
  ex : Nat → List D → Env → Sto → Prop
def Ws (r : Rs) (p : Po) : Prop := match r with
  | .nx ρ S => p.nx ρ S
  | .rt d S => p.rt d S
  | .bk ρ S => p.bk ρ S
  | .ct ρ S => p.ct ρ S
  | .exc c q ρ S => p.ex c q ρ S
  | .bad => False
def optP {α : Type} (o : Option α) (f : α → Prop) : Prop := match o with
  | some a => f a
  | none => False
@[simp] theorem optP_some {α : Type} (a : α) (f : α → Prop) : optP (some a) f = f a := rfl
@[simp] theorem optP_none {α : Type} (f : α → Prop) : optP none f = False := rfl
@[simp] theorem optP_map {α β : Type} (o : Option α) (g : α → β) (f : β → Prop) : optP (o.map g) f = optP o (fun a => f (g a)) := by cases o <;> rfl
theorem WR.mono {α : Type} {r : R α} {Q Q' : α → Sto → Prop} {E E' : Nat → List D → Sto → Prop} (h : WR r Q E) (i : ∀ a S, Q a S → Q' a S) (j : ∀ c p S, E c p S → E' c p S) : WR r Q' E' := by
  cases r with
  | ok a S => exact i a S h
  | exc c p S => exact j c p S h
  | bad => exact h
theorem Ws.mono {r : Rs} {p q : Po} (h : Ws r p) (h1 : ∀ ρ S, p.nx ρ S → q.nx ρ S) (h2 : ∀ d S, p.rt d S → q.rt d S) (h3 : ∀ ρ S, p.bk ρ S → q.bk ρ S) (h4 : ∀ ρ S, p.ct ρ S → q.ct ρ S) (h5 : ∀ c l ρ S, p.ex c l ρ S → q.ex c l ρ S) : Ws r q := by
  cases r with
  | nx _ _ => exact h1 _ _ h
  | rt _ _ => exact h2 _ _ h
  | bk _ _ => exact h3 _ _ h
  | ct _ _ => exact h4 _ _ h
  | exc _ _ _ _ => exact h5 _ _ _ _ h
  | bad => exact h
theorem wp_bind {α β : Type} {r : R α} {f : α → Sto → R β} {Q : β → Sto → Prop} {E : Nat → List D → Sto → Prop} : WR (r.bind f) Q E = WR r (fun a S => WR (f a S) Q E) E := by cases r <;> rfl
section
variable {C : CallSem} {G : Nat → Option D} {ρ : Env} {S : Sto} {Q : D → Sto → Prop} {E : Nat → List D → Sto → Prop} {a b c : Xp}
@[simp ↓] theorem w_ok {α : Type} {x : α} {Q : α → Sto → Prop} : WR (.ok x S) Q E = Q x S := rfl
@[simp ↓] theorem w_exc {α : Type} {n : Nat} {p : List D} {Q : α → Sto → Prop} : WR (.exc n p S : R α) Q E = E n p S := rfl
@[simp ↓] theorem w_bad {α : Type} {Q : α → Sto → Prop} : WR (.bad : R α) Q E = False := rfl
@[simp ↓] theorem w_opt {α : Type} {o : Option α} {Q : α → Sto → Prop} : WR (R.opt o S) Q E = optP o (fun x => Q x S) := by cases o <;> rfl
@[simp ↓] theorem w_mk {so : SO} : WR (mk so S) Q E = Q (.loc S.length) (S ++ [so]) := rfl
@[simp ↓] theorem w_var {i : Nat} : WR (ev C G (.var i) ρ S) Q E = optP (ρ[i]?.bind id) (fun x => Q x S) := by show WR (R.opt _ S) Q E = _; exact w_opt
@[simp ↓] theorem w_glo {i : Nat} : WR (ev C G (.glo i) ρ S) Q E = optP (G i) (fun x => Q x S) := by show WR (R.opt _ S) Q E = _; exact w_opt
@[simp ↓] theorem w_non : WR (ev C G .non ρ S) Q E = Q .non S := rfl
@[simp ↓] theorem w_bl {k : Bool} : WR (ev C G (.bl k) ρ S) Q E = Q (.bl k) S := rfl
@[simp ↓] theorem w_int {i : Int} : WR (ev C G (.int i) ρ S) Q E = Q (.int i) S := rfl
@[simp ↓] theorem w_str {x : Str} : WR (ev C G (.str x) ρ S) Q E = Q (.str x) S := rfl
@[simp ↓] theorem w_tyc {t : String} : WR (ev C G (.tyc t) ρ S) Q E = Q (.ty t) S := rfl
@[simp ↓] theorem w_bin {op : Operator} : WR (ev C G (.bin op a b) ρ S) Q E = WR (ev C G a ρ S) (fun x S1 => WR (ev C G b ρ S1) (fun y S2 => WR (binD op x y S2) Q E) E) E := by
  show WR (R.bind _ fun x S1 => R.bind _ _) Q E = _
  simp only [wp_bind]
def gdP (t : List (Str × D)) (x : D) (f : D → Prop) : Prop := match x with
  | .str z => optP (t.lookup z) f
  | _ => False
@[simp] theorem gdP_str {t : List (Str × D)} {z : Str} {f : D → Prop} : gdP t (.str z) f = optP (t.lookup z) f := rfl
def asIP (x : D) (f : Int → Prop) : Prop := match x with
  | .int i => f i
  | _ => False
@[simp] theorem asIP_int {i : Int} {f : Int → Prop} : asIP (.int i) f = f i := rfl
@[simp ↓] theorem w_asI {r : R D} {Q : Int → Sto → Prop} : WR (asI r) Q E = WR r (fun x S => asIP x fun i => Q i S) E := by
  cases r with
  | ok x S => cases x <;> rfl
  | _ => rfl
@[simp ↓] theorem w_asT {r : R D} {Q : Bool → Sto → Prop} : WR (asT r) Q E = WR r (fun x S => optP (truth x S) fun t => Q t S) E := by
  cases r with
  | ok x S => exact w_opt
  | _ => rfl
@[simp ↓] theorem w_neg : WR (ev C G (.neg a) ρ S) Q E = WR (ev C G a ρ S) (fun x S1 => asIP x fun i => Q (.int (-i)) S1) E := by
  show WR (R.bind (asI _) _) Q E = _
  rw [wp_bind, w_asI]
  rfl
@[simp ↓] theorem w_nt : WR (ev C G (.nt a) ρ S) Q E = WR (ev C G a ρ S) (fun x S1 => optP (truth x S1) fun t => Q (.bl (!t)) S1) E := by
  show WR (R.bind (asT _) _) Q E = _
  rw [wp_bind, w_asT]
  rfl
def selO (o : Option Bool) (p q : Prop) : Prop := match o with
  | some true => p
  | some false => q
  | none => False
@[simp] theorem selO_some {k : Bool} {p q : Prop} : selO (some k) p q = if k = true then p else q := by cases k <;> rfl
@[simp] theorem selO_none {p q : Prop} : selO none p q = False := rfl
@[simp ↓] theorem w_and : WR (ev C G (.and a b) ρ S) Q E = WR (ev C G a ρ S) (fun x S1 => selO (truth x S1) (WR (ev C G b ρ S1) Q E) (Q x S1)) E := by
  show WR (R.bind _ fun x S1 => _) Q E = _
  rw [wp_bind]
  congr 1
  funext x S1
  cases h : truth x S1 with
  | none => rfl
  | some t => cases t <;> rfl
@[simp ↓] theorem w_or : WR (ev C G (.or a b) ρ S) Q E = WR (ev C G a ρ S) (fun x S1 => selO (truth x S1) (Q x S1) (WR (ev C G b ρ S1) Q E)) E := by
  show WR (R.bind _ fun x S1 => _) Q E = _
  rw [wp_bind]
  congr 1
  funext x S1
  cases h : truth x S1 with
  | none => rfl
  | some t => cases t <;> rfl
@[simp ↓] theorem w_cmp {op : CmpOp} : WR (ev C G (.cmp op a b) ρ S) Q E = WR (ev C G a ρ S) (fun x S1 => WR (ev C G b ρ S1) (fun y S2 => optP (cmpD op x y S2) fun t => Q (.bl t) S2) E) E := by
  show WR (R.bind _ fun x S1 => R.bind _ _) Q E = _
  simp only [wp_bind, w_opt, optP_map]
@[simp ↓] theorem w_cmp2 {op op' : CmpOp} : WR (ev C G (.cmp2 op op' a b c) ρ S) Q E = WR (ev C G a ρ S) (fun x S1 => WR (ev C G b ρ S1) (fun y S2 => selO (cmpD op x y S2) (WR (ev C G c ρ S2) (fun z S3 => optP (cmpD op' y z S3) fun t => Q (.bl t) S3) E) (Q (.bl false) S2)) E) E := by
  show WR (R.bind _ fun x S1 => R.bind _ _) Q E = _
  simp only [wp_bind]
  congr 1
  funext x S1
  congr 1
  funext y S2
  cases h : cmpD op x y S2 with
  | none => rfl
  | some t =>
    cases t with
    | false => rfl
    | true =>
      show WR (R.bind _ _) Q E = _
      simp only [wp_bind, w_opt, optP_map]
      rfl
@[simp ↓] theorem w_ife : WR (ev C G (.ife c a b) ρ S) Q E = WR (ev C G c ρ S) (fun x S1 => selO (truth x S1) (WR (ev C G a ρ S1) Q E) (WR (ev C G b ρ S1) Q E)) E := by
  show WR (R.bind (asT _) _) Q E = _
  rw [wp_bind, w_asT]
  congr 1
  funext x S1
  cases truth x S1 with
  | none => rfl
  | some t => cases t <;> rfl
@[simp ↓] theorem w_call {f : Nat} {es : Xp} : WR (ev C G (.call f es) ρ S) Q E = WR (evs C G es ρ S) (fun xs S1 => WR (C f xs S1) Q E) E := by
  show WR (R.bind _ _) Q E = _
  rw [wp_bind]
@[simp ↓] theorem w_callk {f : Nat} {es ks : Xp} {perm : List Nat} : WR (ev C G (.callk f es ks perm) ρ S) Q E = WR (evs C G es ρ S) (fun xs S1 => WR (evs C G ks ρ S1) (fun ys S2 => optP (permL (xs ++ ys) perm) fun zs => WR (C f zs S2) Q E) E) E := by
  show WR (R.bind _ fun xs S1 => R.bind _ _) Q E = _
  simp only [wp_bind]
  congr 1
  funext x S1
  congr 1
  funext y S2
  cases permL (x ++ y) perm <;> rfl
@[simp ↓] theorem w_bi {f : Bi} {es : Xp} : WR (ev C G (.bi f es) ρ S) Q E = WR (evs C G es ρ S) (fun xs S1 => WR (biD f xs S1) Q E) E := by
  show WR (R.bind _ _) Q E = _
  rw [wp_bind]
@[simp ↓] theorem w_mt {m : Mt} {o es : Xp} : WR (ev C G (.mt m o es) ρ S) Q E = WR (ev C G o ρ S) (fun x S1 => isLst x S1 = true ∧ WR (evs C G es ρ S1) (fun xs S2 => WR (mtD m x xs S2) Q E) E) E := by
  show WR (R.bind _ fun x S1 => _) Q E = _
  rw [wp_bind]
  congr 1
  funext x S1
  cases h : isLst x S1 with
  | false => simp
  | true => simp [wp_bind]
@[simp ↓] theorem w_ix : WR (ev C G (.ix a b) ρ S) Q E = WR (ev C G a ρ S) (fun x S1 => WR (ev C G b ρ S1) (fun y S2 => optP (ixD x y S2) fun z => Q z S2) E) E := by
  show WR (R.bind _ fun x S1 => R.bind _ _) Q E = _
  simp only [wp_bind, w_opt]
@[simp ↓] theorem w_gdx {t : List (Str × D)} : WR (ev C G (.gdx t a) ρ S) Q E = WR (ev C G a ρ S) (fun x S1 => gdP t x fun z => Q z S1) E := by
  show WR (R.bind _ fun x S1 => _) Q E = _
  rw [wp_bind]
  congr 1
  funext x S1
  cases x with
  | str z => exact w_opt
  | _ => rfl
@[simp ↓] theorem w_sl {l h : Xp} : WR (ev C G (.sl a l h) ρ S) Q E = WR (ev C G a ρ S) (fun x S1 => WR (evp C G l ρ S1) (fun y S2 => WR (evp C G h ρ S2) (fun z S3 => WR (slD x y z S3) Q E) E) E) E := by
  show WR (R.bind _ fun x S1 => R.bind _ fun y S2 => R.bind _ _) Q E = _
  simp only [wp_bind]
@[simp ↓] theorem w_rev : WR (ev C G (.rev a) ρ S) Q E = WR (ev C G a ρ S) (fun x S1 => WR (revD x S1) Q E) E := by
  show WR (R.bind _ _) Q E = _
  rw [wp_bind]
@[simp ↓] theorem w_tup {es : Xp} : WR (ev C G (.tup es) ρ S) Q E = WR (evs C G es ρ S) (fun xs S1 => xs.length ≤ 1000 ∧ Q (.tup xs) S1) E := by
  show WR (R.bind _ _) Q E = _
  rw [wp_bind]
  congr 1
  funext x S1
  by_cases h : x.length ≤ 1000
  · simp [h]
  · simp [h]
@[simp ↓] theorem w_lst {es : Xp} : WR (ev C G (.lst es) ρ S) Q E = WR (evs C G es ρ S) (fun xs S1 => xs.length ≤ 1000 ∧ Q (.loc S1.length) (S1 ++ [.lst xs])) E := by
  show WR (R.bind _ _) Q E = _
  rw [wp_bind]
  congr 1
  funext x S1
  by_cases h : x.length ≤ 1000
  · simp [h]
  · simp [h]
@[simp ↓] theorem w_lc {it tg el cd : Xp} {vs : List Nat} : WR (ev C G (.lc it tg el cd vs) ρ S) Q E = WR (evi C G it ρ S) (fun src S1 => WR (lcl src tg (fun ρ1 S2 => asT (ev C G cd ρ1 S2)) (fun ρ1 S2 => ev C G el ρ1 S2) (wipeE ρ vs) (src.size S1 + 1) 0 [] S1) (fun ds S2 => Q (.loc S2.length) (S2 ++ [.lst ds])) E) E := by
  show WR (R.bind _ fun x S1 => R.bind _ _) Q E = _
  simp only [wp_bind, w_mk]
@[simp ↓] theorem w_evs_nil {Q : List D → Sto → Prop} : WR (evs C G .nil ρ S) Q E = Q [] S := rfl
@[simp ↓] theorem w_evs_cons {Q : List D → Sto → Prop} : WR (evs C G (.cons a b) ρ S) Q E = WR (ev C G a ρ S) (fun x S1 => WR (evs C G b ρ S1) (fun xs S2 => Q (x :: xs) S2) E) E := by
  show WR (R.bind _ fun x S1 => R.bind _ _) Q E = _
  simp only [wp_bind, w_ok]
@[simp ↓] theorem w_evp_nil {Q : Option Int → Sto → Prop} : WR (evp C G .nil ρ S) Q E = Q none S := rfl
@[simp ↓] theorem w_evp_cons {Q : Option Int → Sto → Prop} : WR (evp C G (.cons a b) ρ S) Q E = WR (ev C G a ρ S) (fun x S1 => asIP x fun i => Q (some i) S1) E := by
  show WR (R.bind (asI _) _) Q E = _
  rw [wp_bind, w_asI]
  rfl
variable {Q' : Src → Sto → Prop}
@[simp ↓] theorem w_itr : WR (evi C G (.itr a) ρ S) Q' E = WR (ev C G a ρ S) (fun x S1 => optP (srcOf x S1) fun s => Q' s S1) E := by
  show WR (R.bind _ _) Q' E = _
  simp only [wp_bind, w_opt]
theorem w_if {α : Type} {p : Prop} [Decidable p] {x y : R α} {Q : α → Sto → Prop} : WR (if p then x else y) Q E = if p then WR x Q E else WR y Q E := by by_cases h : p <;> simp [h]
theorem if_bad {α : Type} {p : Prop} [Decidable p] {x : R α} {Q : α → Sto → Prop} : WR (if p then x else .bad) Q E = (p ∧ WR x Q E) := by by_cases h : p <;> simp [h]
@[simp ↓] theorem w_rng1 : WR (evi C G (.rng1 a) ρ S) Q' E = WR (ev C G a ρ S) (fun x S1 => asIP x fun i => small62 i = true ∧ Q' (.ds (rangeD 0 i.toNat)) S1) E := by
  show WR (R.bind (asI _) _) Q' E = _
  simp only [wp_bind, w_asI, if_bad, w_ok]
@[simp ↓] theorem w_rng2 : WR (evi C G (.rng2 a b) ρ S) Q' E = WR (ev C G a ρ S) (fun x S1 => asIP x fun i => WR (ev C G b ρ S1) (fun y S2 => asIP y fun j => (small62 i && small62 j) = true ∧ Q' (.ds (rangeD i (j - i).toNat)) S2) E) E := by
  show WR (R.bind (asI _) fun i S1 => R.bind (asI _) _) Q' E = _
  simp only [wp_bind, w_asI, if_bad, w_ok]
def zipP (x y : D) (S : Sto) (Q : Src → Prop) : Prop := match x, y with
  | .loc n, .loc k => (lstAt S n).isSome = true ∧ (lstAt S k).isSome = true ∧ Q (.zip n k)
  | .tup xs, .tup ys => Q (.ds ((xs.zip ys).map fun p => .tup [p.1, p.2]))
  | _, _ => False
@[simp] theorem zipP_loc {n k : Nat} {Q : Src → Prop} : zipP (.loc n) (.loc k) S Q = ((lstAt S n).isSome = true ∧ (lstAt S k).isSome = true ∧ Q (.zip n k)) := rfl
@[simp] theorem zipP_tup {xs ys : List D} {Q : Src → Prop} : zipP (.tup xs) (.tup ys) S Q = Q (.ds ((xs.zip ys).map fun p => .tup [p.1, p.2])) := rfl
@[simp ↓] theorem w_zip2 : WR (evi C G (.zip2 a b) ρ S) Q' E = WR (ev C G a ρ S) (fun x S1 => WR (ev C G b ρ S1) (fun y S2 => zipP x y S2 fun s => Q' s S2) E) E := by
  show WR (R.bind _ fun x S1 => R.bind _ _) Q' E = _
  simp only [wp_bind]
  congr 1
  funext x S1
  congr 1
  funext y S2
  cases x with
  | loc n =>
    cases y with
    | loc k =>
      show WR (match lstAt S2 n, lstAt S2 k with
      | some _, some _ => .ok (.zip n k) S2
      | _, _ => .bad) Q' E = _
      rw [zipP_loc]
      cases lstAt S2 n <;> cases lstAt S2 k <;> simp
    | _ => rfl
  | tup xs => cases y <;> rfl
  | _ => rfl
def enumP (x : D) (S : Sto) (Q : Src → Prop) : Prop := match x with
  | .loc n => (lstAt S n).isSome = true ∧ Q (.enum n)
  | _ => False
@[simp] theorem enumP_loc {n : Nat} {Q : Src → Prop} : enumP (.loc n) S Q = ((lstAt S n).isSome = true ∧ Q (.enum n)) := rfl
@[simp ↓] theorem w_enum : WR (evi C G (.enum a) ρ S) Q' E = WR (ev C G a ρ S) (fun x S1 => enumP x S1 fun s => Q' s S1) E := by
  show WR (R.bind _ fun x S1 => _) Q' E = _
  rw [wp_bind]
  congr 1
  funext x S1
  cases x with
  | loc n =>
    show WR (match lstAt S1 n with
      | some _ => .ok (.enum n) S1
      | none => .bad) Q' E = _
    rw [enumP_loc]
    cases lstAt S1 n <;> simp
  | _ => rfl
end
/-! ### operations, at data -/
section
variable {S : Sto} {Q : D → Sto → Prop} {E : Nat → List D → Sto → Prop} {i j : Int}
@[simp ↓] theorem b_addI : binD .Add (.int i) (.int j) S = .ok (.int (i + j)) S := rfl
@[simp ↓] theorem b_subI : binD .Sub (.int i) (.int j) S = .ok (.int (i - j)) S := rfl
@[simp ↓] theorem b_mulI : WR (binD .Mult (.int i) (.int j) S) Q E = (mulOk i j = true ∧ Q (.int (i * j)) S) := by show WR (if _ then _ else .bad) Q E = _; rw [if_bad]; rfl
@[simp ↓] theorem b_divI : WR (binD .FloorDiv (.int i) (.int j) S) Q E = (divOk j = true ∧ Q (.int (i / j)) S) := by show WR (if _ then _ else .bad) Q E = _; rw [if_bad]; rfl
@[simp ↓] theorem b_modI : WR (binD .Mod (.int i) (.int j) S) Q E = (0 < j ∧ Q (.int (i % j)) S) := by show WR (if _ then _ else .bad) Q E = _; rw [if_bad]; simp
@[simp ↓] theorem b_powI : WR (binD .Pow (.int i) (.int j) S) Q E = (powOk i j = true ∧ Q (.int (i ^ j.toNat)) S) := by show WR (if _ then _ else .bad) Q E = _; rw [if_bad]; rfl
@[simp ↓] theorem b_addS {x y : Str} : WR (binD .Add (.str x) (.str y) S) Q E = (x.length + y.length ≤ sizeLine ∧ Q (.str (x ++ y)) S) := by show WR (if _ then _ else .bad) Q E = _; rw [if_bad]; rfl
@[simp ↓] theorem b_addT {x y : List D} : WR (binD .Add (.tup x) (.tup y) S) Q E = (x.length + y.length ≤ sizeLine ∧ Q (.tup (x ++ y)) S) := by show WR (if _ then _ else .bad) Q E = _; rw [if_bad]; rfl
@[simp] theorem t_bl {k : Bool} : truth (.bl k) S = some k := rfl
@[simp] theorem t_int : truth (.int i) S = some (i != 0) := rfl
@[simp] theorem t_tup {ds : List D} : truth (.tup ds) S = some (!ds.isEmpty) := rfl
@[simp] theorem t_non : truth .non S = some false := rfl
@[simp] theorem c_eqI : cmpD .Eq (.int i) (.int j) S = some (i == j) := rfl
@[simp] theorem c_eqS {x y : Str} : cmpD .Eq (.str x) (.str y) S = some (x == y) := rfl
@[simp] theorem c_neI : cmpD .NotEq (.int i) (.int j) S = some (!(i == j)) := rfl
@[simp] theorem c_neS {x y : Str} : cmpD .NotEq (.str x) (.str y) S = some (!(x == y)) := rfl
@[simp] theorem c_lt : cmpD .Lt (.int i) (.int j) S = some (decide (i < j)) := rfl
@[simp] theorem c_le : cmpD .LtE (.int i) (.int j) S = some (decide (i ≤ j)) := rfl
@[simp] theorem c_gt : cmpD .Gt (.int i) (.int j) S = some (decide (j < i)) := rfl
@[simp] theorem c_ge : cmpD .GtE (.int i) (.int j) S = some (decide (j ≤ i)) := rfl
@[simp] theorem c_isN {x : D} : cmpD .Is x .non S = some (isNon x) := rfl
@[simp] theorem c_notN {x : D} : cmpD .IsNot x .non S = some (!isNon x) := rfl
@[simp] theorem c_inT {x : D} {ds : List D} : cmpD .In x (.tup ds) S = inSeq x ds := rfl
@[simp] theorem c_ninT {x : D} {ds : List D} : cmpD .NotIn x (.tup ds) S = (inSeq x ds).map (!·) := rfl
@[simp] theorem l_tup {ds : List D} : lenD (.tup ds) S = some ds.length := rfl
@[simp] theorem l_loc {n : Nat} : lenD (.loc n) S = lenL (lstAt S n) (dicAt S n) := rfl
@[simp] theorem lenL_some {ds : List D} {o : Option (List (Key × D))} : lenL (some ds) o = some ds.length := rfl
@[simp] theorem lenL_none {kvs : List (Key × D)} : lenL none (some kvs) = some kvs.length := rfl
@[simp] theorem x_tup {ds : List D} : ixD (.tup ds) (.int i) S = atI ds i := rfl
@[simp] theorem x_loc {n : Nat} : ixD (.loc n) (.int i) S = ixL (lstAt S n) (dicAt S n) (.int i) := rfl
@[simp] theorem x_locS {n : Nat} {z : Str} : ixD (.loc n) (.str z) S = ixL (lstAt S n) (dicAt S n) (.str z) := rfl
@[simp] theorem ixL_some {ds : List D} {o : Option (List (Key × D))} : ixL (some ds) o (.int i) = atI ds i := rfl
@[simp] theorem ixL_none {kvs : List (Key × D)} {y : D} : ixL none (some kvs) y = (kD y).bind fun k => valA kvs k := rfl
@[simp ↓] theorem w_dnew {C : CallSem} {G : Nat → Option D} {ρ : Env} : WR (ev C G .dnew ρ S) Q E = Q (.loc S.length) (S ++ [.dic []]) := rfl
@[simp ↓] theorem bi_lenW {x : D} : WR (biD .len [x] S) Q E = optP (lenD x S) fun n => Q (.int n) S := by show WR (R.opt _ S) Q E = _; rw [w_opt]; cases lenD x S <;> rfl
@[simp ↓] theorem bi_isW {x t : D} : WR (biD .isinst [x, t] S) Q E = optP (isinst x t S) fun b => Q (.bl b) S := by show WR (R.opt _ S) Q E = _; rw [w_opt, optP_map]
@[simp ↓] theorem bi_absW : biD .abs [.int i] S = .ok (.int (if i < 0 then -i else i)) S := rfl
@[simp ↓] theorem bi_maxW : biD .max [.int i, .int j] S = .ok (.int (if j > i then j else i)) S := rfl
@[simp ↓] theorem bi_minW : biD .min [.int i, .int j] S = .ok (.int (if j < i then j else i)) S := rfl
@[simp ↓] theorem bi_intI : biD .int [.int i] S = .ok (.int i) S := rfl
@[simp ↓] theorem bi_intB {k : Bool} : biD .int [.bl k] S = .ok (.int (if k then 1 else 0)) S := rfl
@[simp ↓] theorem bi_sumW {n : Nat} : WR (biD .sum [.loc n] S) Q E = optP ((lstAt S n).bind intsOf) fun ns => Q (.int ns.sum) S := by show WR (R.opt _ S) Q E = _; rw [w_opt, optP_map]
@[simp ↓] theorem bi_allW {n : Nat} : WR (biD .all [.loc n] S) Q E = optP ((lstAt S n).bind blsOf) fun ns => Q (.bl (ns.all id)) S := by show WR (R.opt _ S) Q E = _; rw [w_opt, optP_map]
@[simp ↓] theorem bi_anyW {n : Nat} : WR (biD .any [.loc n] S) Q E = optP ((lstAt S n).bind blsOf) fun ns => Q (.bl (ns.any id)) S := by show WR (R.opt _ S) Q E = _; rw [w_opt, optP_map]
@[simp ↓] theorem bi_reprW {x : D} : WR (biD .repr [x] S) Q E = optP (repD x S) fun z => Q z S := by show WR (R.opt _ S) Q E = _; rw [w_opt]
@[simp ↓] theorem bi_tupW {n : Nat} : WR (biD .tuple [.loc n] S) Q E = optP (lstAt S n) fun ds => Q (.tup ds) S := by
  show WR (match lstAt S n with
    | some ds => .ok (.tup ds) S
    | none => .bad) Q E = _
  cases lstAt S n <;> rfl
@[simp ↓] theorem bi_tupT {ds : List D} : biD .tuple [.tup ds] S = .ok (.tup ds) S := rfl
@[simp ↓] theorem bi_lstW {n : Nat} : WR (biD .list [.loc n] S) Q E = optP (lstAt S n) fun ds => Q (.loc S.length) (S ++ [.lst ds]) := by
  show WR (match lstAt S n with
    | some ds => mk (.lst ds) S
    | none => .bad) Q E = _
  cases lstAt S n <;> rfl
@[simp ↓] theorem bi_lstT {ds : List D} : WR (biD .list [.tup ds] S) Q E = Q (.loc S.length) (S ++ [.lst ds]) := rfl
@[simp ↓] theorem sl_tupW {ds : List D} {l h : Option Int} : slD (.tup ds) l h S = .ok (.tup (cut ds l h)) S := rfl
@[simp] theorem so_tup {ds : List D} : srcOf (.tup ds) S = some (.ds ds) := rfl
@[simp] theorem so_str {z : Str} : srcOf (.str z) S = some (.ds (z.cps.toList.map fun c => .str ⟨#[c]⟩)) := rfl
@[simp] theorem so_loc {n : Nat} : srcOf (.loc n) S = (lstAt S n).map fun _ => .lst n := rfl
end
@[simp] theorem at0 {α : Type} {x : α} {r : List α} : atI (x :: r) 0 = some x := atI_nat (j := 0) rfl
@[simp] theorem at1 {α : Type} {x y : α} {r : List α} : atI (x :: y :: r) 1 = some y := atI_nat (j := 1) rfl
@[simp] theorem at2 {α : Type} {x y z : α} {r : List α} : atI (x :: y :: z :: r) 2 = some z := atI_nat (j := 2) rfl
@[simp] theorem at3 {α : Type} {x y z u : α} {r : List α} : atI (x :: y :: z :: u :: r) 3 = some u := atI_nat (j := 3) rfl
/-! ### statements -/
section
variable {n : Nat} {C : CallSem} {G : Nat → Option D} {ρ : Env} {S : Sto} {p : Po} {a b c : Xp} {A B : Sx}
theorem ofR_ws {α : Type} {r : R α} {f : α → Sto → Rs} : Ws (ofR r ρ f) p = WR r (fun x S1 => Ws (f x S1) p) (fun c q S1 => p.ex c q ρ S1) := by cases r <;> rfl
@[simp ↓] theorem s_nx : Ws (.nx ρ S) p = p.nx ρ S := rfl
@[simp ↓] theorem s_rt {d : D} : Ws (.rt d S) p = p.rt d S := rfl
@[simp ↓] theorem s_bad : Ws .bad p = False := rfl
@[simp ↓] theorem s_pass : Ws (run n C G .pass ρ S) p = p.nx ρ S := rfl
@[simp ↓] theorem s_brk : Ws (run n C G .brk ρ S) p = p.bk ρ S := rfl
@[simp ↓] theorem s_cont : Ws (run n C G .cont ρ S) p = p.ct ρ S := rfl
@[simp ↓] theorem s_nil : Ws (run n C G .nil ρ S) p = p.nx ρ S := rfl
@[simp ↓] theorem s_cons : Ws (run n C G (.cons A B) ρ S) p = Ws (run n C G A ρ S) { p with nx := fun ρ1 S1 => Ws (run n C G B ρ1 S1) p } := by
  show Ws (match run n C G A ρ S with
    | .nx ρ1 S1 => run n C G B ρ1 S1
    | r => r) p = _
  cases run n C G A ρ S <;> rfl
@[simp ↓] theorem s_ex : Ws (run n C G (.ex a) ρ S) p = WR (ev C G a ρ S) (fun _ S1 => p.nx ρ S1) (fun c q S1 => p.ex c q ρ S1) := by
  show Ws (ofR _ _ _) p = _
  rw [ofR_ws]
  rfl
@[simp ↓] theorem s_ret : Ws (run n C G (.ret a) ρ S) p = WR (ev C G a ρ S) (fun d S1 => p.rt d S1) (fun c q S1 => p.ex c q ρ S1) := by
  show Ws (ofR _ _ _) p = _
  rw [ofR_ws]
  rfl
@[simp ↓] theorem s_asgV {i : Nat} : Ws (run n C G (.asg (.var i) a) ρ S) p = WR (ev C G a ρ S) (fun d S1 => p.nx (ρ.set i (some d)) S1) (fun c q S1 => p.ex c q ρ S1) := by
  show Ws (ofR _ _ _) p = _
  rw [ofR_ws]
  rfl
@[simp ↓] theorem s_asgT {t : Xp} : Ws (run n C G (.asg (.tup t) a) ρ S) p = WR (ev C G a ρ S) (fun d S1 => optP (bindT (.tup t) d ρ) fun ρ1 => p.nx ρ1 S1) (fun c q S1 => p.ex c q ρ S1) := by
  show Ws (ofR _ _ _) p = _
  rw [ofR_ws]
  congr 1
  funext d S1
  show Ws (match bindT (.tup t) d ρ with
    | some ρ1 => .nx ρ1 S1
    | none => .bad) p = _
  cases bindT (.tup t) d ρ <;> rfl
@[simp ↓] theorem s_asgI : Ws (run n C G (.asg (.ix a b) c) ρ S) p = WR (ev C G c ρ S) (fun d S1 => WR (ev C G a ρ S1) (fun x S2 => WR (ev C G b ρ S2) (fun y S3 => optP (setIx x y d S3) fun S4 => p.nx ρ S4) (fun c q S1 => p.ex c q ρ S1)) (fun c q S1 => p.ex c q ρ S1)) (fun c q S1 => p.ex c q ρ S1) := by
  show Ws (ofR _ _ _) p = _
  rw [ofR_ws]
  congr 1
  funext d S1
  show Ws (ofR _ _ fun x S1 => ofR _ _ _) p = _
  rw [ofR_ws]
  congr 1
  funext x S2
  rw [ofR_ws]
  congr 1
  funext y S3
  cases setIx x y d S3 <;> rfl
@[simp ↓] theorem s_par {js : List Nat} : Ws (run n C G (.par js a) ρ S) p = WR (evs C G a ρ S) (fun ds S1 => optP (parE js ds ρ) fun ρ1 => p.nx ρ1 S1) (fun c q S1 => p.ex c q ρ S1) := by
  show Ws (ofR _ _ _) p = _
  rw [ofR_ws]
  congr 1
  funext ds S1
  cases parE js ds ρ <;> rfl
@[simp ↓] theorem s_aug {i : Nat} {op : Operator} : Ws (run n C G (.aug i op a) ρ S) p = optP (ρ[i]?.bind id) fun x => WR (ev C G a ρ S) (fun y S1 => WR (augD op x y S1) (fun z S2 => p.nx (ρ.set i (some z)) S2) (fun c q S1 => p.ex c q ρ S1)) (fun c q S1 => p.ex c q ρ S1) := by
  show Ws (match ρ[i]?.bind id with
    | some x => ofR (ev C G a ρ S) ρ fun y S1 => ofR (augD op x y S1) ρ fun z S2 => .nx (ρ.set i (some z)) S2
    | none => .bad) p = _
  cases ρ[i]?.bind id with
  | none => rfl
  | some x =>
    show Ws (ofR _ _ fun x S1 => ofR _ _ _) p = _
    rw [ofR_ws]
    simp only [ofR_ws]
    rfl
@[simp ↓] theorem s_iff : Ws (run n C G (.iff c A B) ρ S) p = WR (ev C G c ρ S) (fun x S1 => selO (truth x S1) (Ws (run n C G A ρ S1) p) (Ws (run n C G B ρ S1) p)) (fun c q S1 => p.ex c q ρ S1) := by
  show Ws (ofR (asT _) _ _) p = _
  rw [ofR_ws, w_asT]
  congr 1
  funext x S1
  cases truth x S1 with
  | none => rfl
  | some t => cases t <;> rfl
@[simp ↓] theorem s_rse {k : Nat} : Ws (run n C G (.rse k a) ρ S) p = WR (evs C G a ρ S) (fun q S1 => p.ex k q ρ S1) (fun c q S1 => p.ex c q ρ S1) := by
  show Ws (ofR _ _ _) p = _
  rw [ofR_ws]
  rfl
@[simp ↓] theorem s_for {t it : Xp} : Ws (run n C G (.for_ t it A) ρ S) p = WR (evi C G it ρ S) (fun src S1 => Ws (forl src t (fun ρ S => run n C G A ρ S) (src.size S1 + 1) 0 ρ S1) p) (fun c q S1 => p.ex c q ρ S1) := by
  show Ws (ofR _ _ _) p = _
  rw [ofR_ws]
@[simp ↓] theorem s_whl : Ws (run n C G (.whl c A) ρ S) p = Ws (whl (fun ρ S => asT (ev C G c ρ S)) (fun ρ S => run n C G A ρ S) n ρ S) p := rfl
@[simp ↓] theorem s_try {cs : List (Nat × Bool)} : Ws (run n C G (.tryS A cs B) ρ S) p = Ws (run n C G A ρ S) { p with ex := fun c q ρ1 S1 => selO (cs.lookup c) (Ws (run n C G B ρ1 S1) p) (p.ex c q ρ1 S1) } := by
  show Ws (match run n C G A ρ S with
    | .exc c' q ρ1 S1 => match cs.lookup c' with
      | some true => run n C G B ρ1 S1
      | some false => .exc c' q ρ1 S1
      | none => .bad
    | r => r) p = _
  cases run n C G A ρ S with
  | exc c' q ρ1 S1 =>
    show Ws (match cs.lookup c' with
      | some true => run n C G B ρ1 S1
      | some false => .exc c' q ρ1 S1
      | none => .bad) p = selO (cs.lookup c') (Ws (run n C G B ρ1 S1) p) (p.ex c' q ρ1 S1)
    cases cs.lookup c' with
    | none => rfl
    | some t => cases t <;> rfl
  | _ => rfl
theorem w_end {r : Rs} {Q : D → Sto → Prop} {E : Nat → List D → Sto → Prop} : WR (endR r) Q E = Ws r { nx := fun _ S => Q .non S, rt := Q, bk := fun _ _ => False, ct := fun _ _ => False, ex := fun c q _ S => E c q S } := by cases r <;> rfl
@[simp ↓] theorem a_addI {i j : Int} : augD .Add (.int i) (.int j) S = .ok (.int (i + j)) S := rfl
@[simp ↓] theorem a_subI {i j : Int} : augD .Sub (.int i) (.int j) S = .ok (.int (i - j)) S := rfl
end
/-! ### loops -/
theorem wp_lcl {src : Src} {tg : Xp} {cond : Env → Sto → R Bool} {elt : Env → Sto → R D} {ρ : Env} {Q : List D → Sto → Prop} {E : Nat → List D → Sto → Prop} (n : Nat) (I : Nat → List D → Sto → Prop)
    (go : ∀ i acc S, i < n → I i acc S → ∃ d ρ1, src.get i S = some (some d) ∧ bindT tg d ρ = some ρ1 ∧ WR (cond ρ1 S) (fun b S1 => if b = true then WR (elt ρ1 S1) (fun y S2 => acc.length < sizeLine ∧ I (i + 1) (acc ++ [y]) S2) Eo else I (i + 1) acc S1) Eo)
    (fin : ∀ acc S, I n acc S → src.get n S = some none ∧ Q acc S) : ∀ (f i : Nat) (acc : List D) (S : Sto), i ≤ n → n < i + f → I i acc S → WR (lcl src tg cond elt ρ f i acc S) Q E
  | 0, i, acc, S, h1, h2, _ => absurd h1 (by omega)
  | f + 1, i, acc, S, h1, h2, h => by
    show WR (match src.get i S with
      | none => .bad
      | some none => .ok acc S
      | some (some d) => match bindT tg d ρ with
        | none => .bad
        | some ρ1 => match cond ρ1 S with
          | .ok true S1 => match elt ρ1 S1 with
            | .ok y S2 => if acc.length < sizeLine then lcl src tg cond elt ρ f (i + 1) (acc ++ [y]) S2 else .bad
            | _ => .bad
          | .ok false S1 => lcl src tg cond elt ρ f (i + 1) acc S1
          | _ => .bad) Q E
    by_cases e : i = n
    · subst e
      obtain ⟨z1, z2⟩ := fin acc S h
      rw [z1]
      exact z2
    · obtain ⟨d, ρ1, z1, z2, z3⟩ := go i acc S (by omega) h
      rw [z1]
      simp only [z2]
      cases q : cond ρ1 S with
      | bad => rw [q] at z3; exact z3.elim
      | exc _ _ _ => rw [q] at z3; exact z3.elim
      | ok b S1 =>
        rw [q] at z3
        cases b with
        | false => exact wp_lcl n I go fin f (i + 1) acc S1 (by omega) (by omega) (by simpa using z3)
        | true =>
          have z4 : WR (elt ρ1 S1) (fun y S2 => acc.length < sizeLine ∧ I (i + 1) (acc ++ [y]) S2) Eo := by simpa using z3
          cases q2 : elt ρ1 S1 with
          | bad => rw [q2] at z4; exact z4.elim
          | exc _ _ _ => rw [q2] at z4; exact z4.elim
          | ok y S2 =>
            rw [q2] at z4
            simp only [q2]
            rw [if_pos z4.1]
            exact wp_lcl n I go fin f (i + 1) (acc ++ [y]) S2 (by omega) (by omega) z4.2
theorem ws_forl {src : Src} {tg : Xp} {b : Env → Sto → Rs} {p : Po} (n : Nat) (I : Nat → Env → Sto → Prop)
    (go : ∀ i ρ S, i < n → I i ρ S → ∃ d ρ1, src.get i S = some (some d) ∧ bindT tg d ρ = some ρ1 ∧ Ws (b ρ1 S) { nx := I (i + 1), ct := I (i + 1), bk := p.nx, rt := p.rt, ex := p.ex })
    (fin : ∀ ρ S, I n ρ S → src.get n S = some none ∧ p.nx ρ S) : ∀ (f i : Nat) (ρ : Env) (S : Sto), i ≤ n → n < i + f → I i ρ S → Ws (forl src tg b f i ρ S) p
  | 0, i, ρ, S, h1, h2, _ => absurd h1 (by omega)
  | f + 1, i, ρ, S, h1, h2, h => by
    show Ws (match src.get i S with
      | none => .bad
      | some none => .nx ρ S
      | some (some d) => match bindT tg d ρ with
        | none => .bad
        | some ρ1 => match b ρ1 S with
          | .nx ρ2 S2 => forl src tg b f (i + 1) ρ2 S2
          | .ct ρ2 S2 => forl src tg b f (i + 1) ρ2 S2
          | .bk ρ2 S2 => .nx ρ2 S2
          | r => r) p
    by_cases e : i = n
    · subst e
      obtain ⟨z1, z2⟩ := fin ρ S h
      rw [z1]
      exact z2
    · obtain ⟨d, ρ1, z1, z2, z3⟩ := go i ρ S (by omega) h
      rw [z1]
      simp only [z2]
      cases q : b ρ1 S with
      | bad => rw [q] at z3; exact z3.elim
      | exc _ _ _ _ => rw [q] at z3; exact z3
      | rt _ _ => rw [q] at z3; exact z3
      | bk _ _ => rw [q] at z3; exact z3
      | nx ρ2 S2 => rw [q] at z3; exact ws_forl n I go fin f (i + 1) ρ2 S2 (by omega) (by omega) z3
      | ct ρ2 S2 => rw [q] at z3; exact ws_forl n I go fin f (i + 1) ρ2 S2 (by omega) (by omega) z3
theorem ws_whl {c : Env → Sto → R Bool} {b : Env → Sto → Rs} {p : Po} (I : Nat → Env → Sto → Prop)
    (go : ∀ m ρ S, I m ρ S → WR (c ρ S) (fun t S1 => if t = true then Ws (b ρ S1) { nx := fun ρ2 S2 => ∃ m', m' < m ∧ I m' ρ2 S2, ct := fun ρ2 S2 => ∃ m', m' < m ∧ I m' ρ2 S2, bk := p.nx, rt := p.rt, ex := p.ex } else p.nx ρ S1) (fun c q S1 => p.ex c q ρ S1)) :
    ∀ (f m : Nat) (ρ : Env) (S : Sto), m < f → I m ρ S → Ws (whl c b f ρ S) p
  | 0, m, ρ, S, h1, _ => absurd h1 (by omega)
  | f + 1, m, ρ, S, h1, h => by
    show Ws (ofR (c ρ S) ρ fun t S1 => if t then (match b ρ S1 with
      | .nx ρ2 S2 => whl c b f ρ2 S2
      | .ct ρ2 S2 => whl c b f ρ2 S2
      | .bk ρ2 S2 => .nx ρ2 S2
      | r => r) else .nx ρ S1) p
    rw [ofR_ws]
    refine WR.mono (go m ρ S h) (fun t S1 z => ?_) (fun _ _ _ z => z)
    cases t with
    | false => simpa using z
    | true =>
      rw [if_pos rfl] at z ⊢
      cases q : b ρ S1 with
      | bad => rw [q] at z; exact z.elim
      | exc _ _ _ _ => rw [q] at z; exact z
      | rt _ _ => rw [q] at z; exact z
      | bk _ _ => rw [q] at z; exact z
      | nx ρ2 S2 =>
        rw [q] at z
        obtain ⟨m', hm, z⟩ := z
        exact ws_whl I go f m' ρ2 S2 (by omega) z
      | ct ρ2 S2 =>
        rw [q] at z
        obtain ⟨m', hm, z⟩ := z
        exact ws_whl I go f m' ρ2 S2 (by omega) z
/-! ### stores that grow -/
def Ext (S S' : Sto) : Prop := ∃ J, S' = S ++ J
theorem Ext.refl (S : Sto) : Ext S S := ⟨[], by simp⟩
theorem Ext.trans {S T U : Sto} (h : Ext S T) (k : Ext T U) : Ext S U := by
  obtain ⟨J, rfl⟩ := h
  obtain ⟨L, rfl⟩ := k
  exact ⟨J ++ L, by simp⟩
theorem Ext.push (S : Sto) (so : SO) : Ext S (S ++ [so]) := ⟨[so], rfl⟩
theorem Ext.to {S T : Sto} (h : Ext S T) (so : SO) : Ext S (T ++ [so]) := h.trans (.push T so)
theorem Ext.get {S T : Sto} (h : Ext S T) {n : Nat} {so : SO} (e : S[n]? = some so) : T[n]? = some so := by
  obtain ⟨J, rfl⟩ := h
  rw [List.getElem?_append_left (List.getElem?_eq_some_iff.mp e).1]
  exact e
theorem Ext.lst {S T : Sto} (h : Ext S T) {n : Nat} {ds : List D} (e : lstAt S n = some ds) : lstAt T n = some ds := by
  unfold lstAt at e ⊢
  cases q : S[n]? with
  | none => rw [q] at e; cases e
  | some so => rw [q] at e; rw [h.get q]; exact e
theorem Ext.le {S T : Sto} (h : Ext S T) : S.length ≤ T.length := by
  obtain ⟨J, rfl⟩ := h
  simp
@[simp] theorem get_new {S : Sto} {so : SO} : (S ++ [so])[S.length]? = some so := by simp
@[simp] theorem lst_new {S : Sto} {ds : List D} : lstAt (S ++ [.lst ds]) S.length = some ds := by simp [lstAt]
/-! ### comprehensions that write nothing -/
theorem wp_lcl_ds {l : List D} {tg : Xp} {cond : Env → Sto → R Bool} {elt : Env → Sto → R D} {ρ : Env} {S : Sto} {Q : List D → Sto → Prop} {E : Nat → List D → Sto → Prop} (c : D → Bool) (f : D → D) (hl : l.length ≤ sizeLine)
    (go : ∀ d ∈ l, ∀ S1, Ext S S1 → ∃ ρ1, bindT tg d ρ = some ρ1 ∧ WR (cond ρ1 S1) (fun b S2 => b = c d ∧ Ext S1 S2 ∧ (c d = true → WR (elt ρ1 S2) (fun y S3 => y = f d ∧ Ext S2 S3) Eo)) Eo)
    (fin : ∀ S', Ext S S' → Q ((l.filter c).map f) S') : WR (lcl (.ds l) tg cond elt ρ (Src.size (.ds l) S + 1) 0 [] S) Q E := by
  refine wp_lcl l.length (fun i acc S1 => acc = ((l.take i).filter c).map f ∧ Ext S S1) ?_ ?_ _ 0 [] S (Nat.zero_le _) (by show l.length < 0 + (l.length + 1); omega) ⟨by simp, .refl S⟩
  · rintro i acc S1 hi ⟨rfl, hx⟩
    obtain ⟨ρ1, h1, h2⟩ := go l[i] (List.getElem_mem hi) S1 hx
    refine ⟨l[i], ρ1, by show some l[i]? = _; rw [List.getElem?_eq_getElem hi], h1, WR.mono h2 (fun b S2 h => ?_) (fun _ _ _ z => z)⟩
    obtain ⟨rfl, h3, h4⟩ := h
    have e : l.take (i + 1) = l.take i ++ [l[i]] := by rw [List.take_succ, List.getElem?_eq_getElem hi]; rfl
    have lt : (((l.take i).filter c).map f).length < sizeLine := by
      have a1 := List.length_filter_le c (l.take i)
      simp only [List.length_map, List.length_take] at a1 ⊢
      omega
    by_cases hc : c l[i] = true
    · rw [if_pos hc]
      refine WR.mono (h4 hc) (fun y S3 z => ?_) (fun _ _ _ z => z)
      obtain ⟨rfl, z⟩ := z
      refine ⟨lt, ?_, (hx.trans h3).trans z⟩
      rw [e, List.filter_append, List.map_append, List.filter_cons_of_pos hc]
      rfl
    · rw [if_neg hc]
      refine ⟨?_, hx.trans h3⟩
      rw [e, List.filter_append, List.map_append, List.filter_cons_of_neg hc]
      simp only [List.filter_nil, List.map_nil, List.append_nil]
  · rintro acc S1 ⟨rfl, hx⟩
    refine ⟨by show some l[l.length]? = _; simp, ?_⟩
    rw [List.take_length]
    exact fin S1 hx
end CC

namespace CC
open PySem PySem.Spec PyProof.Rows L2
section
variable {k : Nat} {v : D} {S : Sto} {Q : D → Sto → Prop} {E : Nat → List D → Sto → Prop}
theorem filt_true {α : Type} {l : List α} : l.filter (fun _ => true) = l := by simp
theorem wp_lcl_map {l : List D} {tg : Xp} {cond : Env → Sto → R Bool} {elt : Env → Sto → R D} {ρ : Env} {S : Sto} {Q : List D → Sto → Prop} {E : Nat → List D → Sto → Prop} (f : D → D) (hl : l.length ≤ sizeLine) (hc : ∀ ρ S, cond ρ S = .ok true S)
    (go : ∀ d ∈ l, ∀ S1, Ext S S1 → ∃ ρ1, bindT tg d ρ = some ρ1 ∧ WR (elt ρ1 S1) (fun y S3 => y = f d ∧ Ext S1 S3) Eo)
    (fin : ∀ S', Ext S S' → Q (l.map f) S') : WR (lcl (.ds l) tg cond elt ρ (Src.size (.ds l) S + 1) 0 [] S) Q E := by
  refine wp_lcl_ds (fun _ => true) f hl (fun d hd S1 x1 => ?_) (fun S1 x1 => by rw [filt_true]; exact fin S1 x1)
  obtain ⟨ρ1, h1, h2⟩ := go d hd S1 x1
  exact ⟨ρ1, h1, by rw [hc]; exact ⟨rfl, .refl _, fun _ => h2⟩⟩
def isIB : D → Bool
  | .int _ => true
  | .bl _ => true
  | _ => false
def isBB : D → Bool
  | .bl _ => true
  | _ => false
def isSB : D → Bool
  | .str _ => true
  | _ => false
def isTB : D → Bool
  | .tup _ => true
  | _ => false
theorem isi_of {t b : String} (h : tyOfD v S = some t) (hk : knownTy b = true) : isinst v (.ty b) S = some (subTy t b) := by
  unfold isinst isT
  rw [h]
  simp [hk]
theorem ty_cases (hv : (tyOfD v S).isSome = true) : (∃ i, v = .int i) ∨ (∃ i, v = .bl i) ∨ (∃ i, v = .str i) ∨ (∃ i, v = .tup i) ∨ (v = .non) ∨ (∃ n, v = .loc n ∧ (tyOfD v S = some "list" ∨ tyOfD v S = some "dict")) := by
  cases v with
  | loc n =>
    refine .inr (.inr (.inr (.inr (.inr ⟨n, rfl, ?_⟩))))
    have e : tyOfD (.loc n) S = match S[n]? with
      | some (.lst _) => some "list"
      | some (.dic _) => some "dict"
      | _ => none := rfl
    rw [e] at hv ⊢
    cases q : S[n]? with
    | none => rw [q] at hv; cases hv
    | some so =>
      rw [q] at hv
      cases so with
      | lst _ => exact .inl rfl
      | dic _ => exact .inr rfl
      | _ => cases hv
  | non => simp
  | bl _ => simp
  | int _ => simp
  | str _ => simp
  | tup _ => simp
  | ty _ => cases hv
  | fn _ => cases hv
theorem isi_int (hv : (tyOfD v S).isSome = true) : isinst v (.ty "int") S = some (isIB v) := by
  rcases ty_cases hv with ⟨i, rfl⟩ | ⟨i, rfl⟩ | ⟨i, rfl⟩ | ⟨i, rfl⟩ | rfl | ⟨n, rfl, h | h⟩
  · exact (isi_of rfl (by decide +kernel)).trans (congrArg some (show subTy "int" "int" = true by decide +kernel))
  · exact (isi_of rfl (by decide +kernel)).trans (congrArg some (show subTy "bool" "int" = true by decide +kernel))
  · exact (isi_of rfl (by decide +kernel)).trans (congrArg some (show subTy "str" "int" = false by decide +kernel))
  · exact (isi_of rfl (by decide +kernel)).trans (congrArg some (show subTy "tuple" "int" = false by decide +kernel))
  · exact (isi_of rfl (by decide +kernel)).trans (congrArg some (show subTy "NoneType" "int" = false by decide +kernel))
  · exact (isi_of h (by decide +kernel)).trans (congrArg some (show subTy "list" "int" = false by decide +kernel))
  · exact (isi_of h (by decide +kernel)).trans (congrArg some (show subTy "dict" "int" = false by decide +kernel))
theorem isi_bool (hv : (tyOfD v S).isSome = true) : isinst v (.ty "bool") S = some (isBB v) := by
  rcases ty_cases hv with ⟨i, rfl⟩ | ⟨i, rfl⟩ | ⟨i, rfl⟩ | ⟨i, rfl⟩ | rfl | ⟨n, rfl, h | h⟩
  · exact (isi_of rfl (by decide +kernel)).trans (congrArg some (show subTy "int" "bool" = false by decide +kernel))
  · exact (isi_of rfl (by decide +kernel)).trans (congrArg some (show subTy "bool" "bool" = true by decide +kernel))
  · exact (isi_of rfl (by decide +kernel)).trans (congrArg some (show subTy "str" "bool" = false by decide +kernel))
  · exact (isi_of rfl (by decide +kernel)).trans (congrArg some (show subTy "tuple" "bool" = false by decide +kernel))
  · exact (isi_of rfl (by decide +kernel)).trans (congrArg some (show subTy "NoneType" "bool" = false by decide +kernel))
  · exact (isi_of h (by decide +kernel)).trans (congrArg some (show subTy "list" "bool" = false by decide +kernel))
  · exact (isi_of h (by decide +kernel)).trans (congrArg some (show subTy "dict" "bool" = false by decide +kernel))
theorem isi_str (hv : (tyOfD v S).isSome = true) : isinst v (.ty "str") S = some (isSB v) := by
  rcases ty_cases hv with ⟨i, rfl⟩ | ⟨i, rfl⟩ | ⟨i, rfl⟩ | ⟨i, rfl⟩ | rfl | ⟨n, rfl, h | h⟩
  · exact (isi_of rfl (by decide +kernel)).trans (congrArg some (show subTy "int" "str" = false by decide +kernel))
  · exact (isi_of rfl (by decide +kernel)).trans (congrArg some (show subTy "bool" "str" = false by decide +kernel))
  · exact (isi_of rfl (by decide +kernel)).trans (congrArg some (show subTy "str" "str" = true by decide +kernel))
  · exact (isi_of rfl (by decide +kernel)).trans (congrArg some (show subTy "tuple" "str" = false by decide +kernel))
  · exact (isi_of rfl (by decide +kernel)).trans (congrArg some (show subTy "NoneType" "str" = false by decide +kernel))
  · exact (isi_of h (by decide +kernel)).trans (congrArg some (show subTy "list" "str" = false by decide +kernel))
  · exact (isi_of h (by decide +kernel)).trans (congrArg some (show subTy "dict" "str" = false by decide +kernel))
theorem isi_tuple (hv : (tyOfD v S).isSome = true) : isinst v (.ty "tuple") S = some (isTB v) := by
  rcases ty_cases hv with ⟨i, rfl⟩ | ⟨i, rfl⟩ | ⟨i, rfl⟩ | ⟨i, rfl⟩ | rfl | ⟨n, rfl, h | h⟩
  · exact (isi_of rfl (by decide +kernel)).trans (congrArg some (show subTy "int" "tuple" = false by decide +kernel))
  · exact (isi_of rfl (by decide +kernel)).trans (congrArg some (show subTy "bool" "tuple" = false by decide +kernel))
  · exact (isi_of rfl (by decide +kernel)).trans (congrArg some (show subTy "str" "tuple" = false by decide +kernel))
  · exact (isi_of rfl (by decide +kernel)).trans (congrArg some (show subTy "tuple" "tuple" = true by decide +kernel))
  · exact (isi_of rfl (by decide +kernel)).trans (congrArg some (show subTy "NoneType" "tuple" = false by decide +kernel))
  · exact (isi_of h (by decide +kernel)).trans (congrArg some (show subTy "list" "tuple" = false by decide +kernel))
  · exact (isi_of h (by decide +kernel)).trans (congrArg some (show subTy "dict" "tuple" = false by decide +kernel))
theorem Ext.ty {S T : Sto} (h : Ext S T) {v : D} {t : String} (e : tyOfD v S = some t) : tyOfD v T = some t := by
  cases v with
  | loc n =>
    have e' : (match S[n]? with
      | some (.lst _) => some "list"
      | some (.dic _) => some "dict"
      | _ => none) = some t := e
    show (match T[n]? with
      | some (.lst _) => some "list"
      | some (.dic _) => some "dict"
      | _ => none) = some t
    cases q : S[n]? with
    | none => rw [q] at e'; cases e'
    | some so => rw [h.get q]; rw [q] at e'; exact e'
  | _ => exact e
/-- a value whose type a text may ask for, so many levels deep -/
def Nice : Nat → D → Sto → Prop
  | 0, _, _ => True
  | n + 1, v, S => (tyOfD v S).isSome = true ∧ ∀ ds, v = .tup ds → ds.length ≤ sizeLine ∧ ∀ d ∈ ds, Nice n d S
theorem Nice.ext {S T : Sto} (h : Ext S T) : ∀ {n : Nat} {v : D}, Nice n v S → Nice n v T
  | 0, _, _ => trivial
  | n + 1, v, ⟨h1, h2⟩ => by
    obtain ⟨t, ht⟩ := Option.isSome_iff_exists.mp h1
    exact ⟨by rw [h.ty ht]; rfl, fun ds e => ⟨(h2 ds e).1, fun d hd => ((h2 ds e).2 d hd).ext h⟩⟩
theorem Nice.le {S : Sto} : ∀ {n m : Nat} {v : D}, Nice n v S → m ≤ n → Nice m v S
  | _, 0, _, _, _ => trivial
  | 0, m + 1, _, _, h => absurd h (by omega)
  | n + 1, m + 1, v, ⟨h1, h2⟩, h => ⟨h1, fun ds e => ⟨(h2 ds e).1, fun d hd => ((h2 ds e).2 d hd).le (by omega)⟩⟩
def isIntD (v : D) (low : Int) : Bool := match v with
  | .int i => decide (low ≤ i)
  | _ => false
def isRunD (a b : Str) (v : D) : Bool := match v with
  | .tup [.str d, c] => (d == a || d == b) && isIntD c 1
  | _ => false
theorem isRunD_len {a b : Str} {ds : List D} (h : ds.length ≠ 2) : isRunD a b (.tup ds) = false := by
  unfold isRunD
  split
  · rename_i e
    cases e
    exact absurd rfl h
  · rfl
theorem inSeq2 {d a b : Str} : inSeq (.str d) [.str a, .str b] = some (d == a || d == b) := by
  have h1 : (a == d) = (d == a) := by rw [Bool.eq_iff_iff, beq_iff_eq, beq_iff_eq]; exact eq_comm
  have h2 : (b == d) = (d == b) := by rw [Bool.eq_iff_iff, beq_iff_eq, beq_iff_eq]; exact eq_comm
  rw [← h1, ← h2]
  simp [inSeq, flatD, feq]
def fstS : D → Str
  | .tup (.str a :: _) => a
  | _ => ""
def areRunsD (a b : Str) (v : D) : Bool := match v with
  | .tup l => !l.isEmpty && l.all (isRunD a b) && (l.zip l.tail).all fun p => fstS p.1 != fstS p.2
  | _ => false
theorem isRunD_str {a b : Str} {v : D} (h : isRunD a b v = true) : ∃ d c, v = .tup [.str d, c] ∧ fstS v = d := by
  unfold isRunD at h
  split at h
  · exact ⟨_, _, rfl, rfl⟩
  · cases h
theorem blsOf_map {f : D → Bool} : ∀ l : List D, blsOf (l.map fun d => .bl (f d)) = some (l.map f)
  | [] => rfl
  | d :: l => by
    show (blsOf (l.map fun d => .bl (f d))).map (f d :: ·) = _
    rw [blsOf_map l]
    rfl
theorem cut1 {α : Type} {l : List α} : cut l (some 1) none = l.tail := by
  have e : HT.sIx l.length 0 (some 1) = min 1 l.length := HT.sIx_nat l.length 0 1
  unfold cut
  rw [e, HT.sIx_none]
  cases l with
  | nil => rfl
  | cons x l => simp
theorem zipRuns {a b : Str} {l : List D} (hr : l.all (isRunD a b) = true) {p : D × D} (hp : p ∈ l.zip l.tail) : isRunD a b p.1 = true ∧ isRunD a b p.2 = true := by
  obtain ⟨h1, h2⟩ := List.of_mem_zip (a := p.1) (b := p.2) hp
  exact ⟨List.all_eq_true.mp hr _ h1, List.all_eq_true.mp hr _ (List.mem_of_mem_tail h2)⟩
theorem wp_lcl_lst {n : Nat} {l : List D} {tg : Xp} {cond : Env → Sto → R Bool} {elt : Env → Sto → R D} {ρ : Env} {S : Sto} {Q : List D → Sto → Prop} {E : Nat → List D → Sto → Prop} (c : D → Bool) (f : D → D) (hs : lstAt S n = some l) (hl : l.length ≤ sizeLine)
    (go : ∀ d ∈ l, ∀ S1, Ext S S1 → ∃ ρ1, bindT tg d ρ = some ρ1 ∧ WR (cond ρ1 S1) (fun b S2 => b = c d ∧ Ext S1 S2 ∧ (c d = true → WR (elt ρ1 S2) (fun y S3 => y = f d ∧ Ext S2 S3) Eo)) Eo)
    (fin : ∀ S', Ext S S' → Q ((l.filter c).map f) S') : WR (lcl (.lst n) tg cond elt ρ (Src.size (.lst n) S + 1) 0 [] S) Q E := by
  have sz : Src.size (.lst n) S = l.length := by show ((lstAt S n).getD []).length = _; rw [hs]; rfl
  refine wp_lcl l.length (fun i acc S1 => acc = ((l.take i).filter c).map f ∧ Ext S S1) ?_ ?_ _ 0 [] S (Nat.zero_le _) (by rw [sz]; omega) ⟨by simp, .refl S⟩
  · rintro i acc S1 hi ⟨rfl, hx⟩
    obtain ⟨ρ1, h1, h2⟩ := go l[i] (List.getElem_mem hi) S1 hx
    refine ⟨l[i], ρ1, by show (lstAt S1 n).map _ = _; rw [hx.lst hs]; show some l[i]? = _; rw [List.getElem?_eq_getElem hi], h1, WR.mono h2 (fun b S2 h => ?_) (fun _ _ _ z => z)⟩
    obtain ⟨rfl, h3, h4⟩ := h
    have e : l.take (i + 1) = l.take i ++ [l[i]] := by rw [List.take_succ, List.getElem?_eq_getElem hi]; rfl
    have lt : (((l.take i).filter c).map f).length < sizeLine := by
      have a1 := List.length_filter_le c (l.take i)
      simp only [List.length_map, List.length_take] at a1 ⊢
      omega
    by_cases hc : c l[i] = true
    · rw [if_pos hc]
      refine WR.mono (h4 hc) (fun y S3 z => ?_) (fun _ _ _ z => z)
      obtain ⟨rfl, z⟩ := z
      refine ⟨lt, ?_, (hx.trans h3).trans z⟩
      rw [e, List.filter_append, List.map_append, List.filter_cons_of_pos hc]
      rfl
    · rw [if_neg hc]
      refine ⟨?_, hx.trans h3⟩
      rw [e, List.filter_append, List.map_append, List.filter_cons_of_neg hc]
      simp only [List.filter_nil, List.map_nil, List.append_nil]
  · rintro acc S1 ⟨rfl, hx⟩
    refine ⟨by show (lstAt S1 n).map _ = _; rw [hx.lst hs]; show some l[l.length]? = _; simp, ?_⟩
    rw [List.take_length]
    exact fin S1 hx
theorem ws_for_map {α : Type} {m : List α} {f : α → D} {tg : Xp} {b : Env → Sto → Rs} {p : Po} {ρ : Env} {S : Sto} (I : List α → Env → Sto → Prop)
    (go : ∀ d r ρ S, I (d :: r) ρ S → ∃ ρ1, bindT tg (f d) ρ = some ρ1 ∧ Ws (b ρ1 S) { nx := I r, ct := I r, bk := p.nx, rt := p.rt, ex := p.ex })
    (fin : ∀ ρ S, I [] ρ S → p.nx ρ S) (h : I m ρ S) : Ws (forl (.ds (m.map f)) tg b (Src.size (.ds (m.map f)) S + 1) 0 ρ S) p := by
  refine ws_forl m.length (fun i ρ S => I (m.drop i) ρ S) (fun i ρ S hi z => ?_) (fun ρ S z => ?_) _ 0 ρ S (Nat.zero_le _) (by show _ < 0 + ((m.map f).length + 1); simp) h
  · have e : m.drop i = m[i] :: m.drop (i + 1) := List.drop_eq_getElem_cons hi
    have z' : I (m.drop i) ρ S := z
    rw [e] at z'
    obtain ⟨ρ1, h1, h2⟩ := go _ _ ρ S z'
    exact ⟨f m[i], ρ1, by show some ((m.map f)[i]?) = _; rw [List.getElem?_map, List.getElem?_eq_getElem hi]; rfl, h1, h2⟩
  · have z' : I (m.drop m.length) ρ S := z
    rw [List.drop_length] at z'
    exact ⟨by show some ((m.map f)[m.length]?) = _; simp, fin ρ S z'⟩
abbrev Runs := List (Str × Int)
def encP (p : Str × Int) : D := .tup [.str p.1, .int p.2]
def encR (l : Runs) : D := .tup (l.map encP)
def encC (a b : Runs) : D := .tup [encR a, encR b]
def total (l : Runs) : Int := (l.map (·.2)).sum
def ascR (l : Runs) : Bool := (l.zip l.tail).all fun p => p.1.1 != p.2.1
def okR (a b : Str) (l : Runs) : Bool := !l.isEmpty && l.all (fun p => (p.1 == a || p.1 == b) && decide (1 ≤ p.2)) && ascR l
theorem areRuns_enc {a b : Str} {l : Runs} : areRunsD a b (encR l) = okR a b l := by
  unfold encR areRunsD okR ascR
  simp only [List.isEmpty_map, List.all_map]
  congr 1
  rw [← List.map_tail, List.zip_map, List.all_map]
  rfl
def isCityD (v : D) : Bool := match v with
  | .tup [x, y] => areRunsD "E" "W" x && areRunsD "N" "S" y
  | _ => false
theorem isCityD_len {ds : List D} (h : ds.length ≠ 2) : isCityD (.tup ds) = false := by
  unfold isCityD
  split
  · rename_i e
    cases e
    exact absurd rfl h
  · rfl
theorem two_of {ds : List D} (h : ((ds.length : Nat) : Int) = 2) : ∃ x y, ds = [x, y] := by
  match ds, h with
  | [x, y], _ => exact ⟨x, y, rfl⟩
  | [], h => simp at h
  | [_], h => simp at h
  | _ :: _ :: _ :: r, h => simp only [List.length_cons] at h; omega
theorem intsOf_map {α : Type} {f : α → Int} : ∀ l : List α, intsOf (l.map fun d => .int (f d)) = some (l.map f)
  | [] => rfl
  | d :: l => by
    show (intsOf (l.map fun d => .int (f d))).map (f d :: ·) = _
    rw [intsOf_map l]
    rfl
def runAt : Runs → Int → Int → Option (Str × Int × Int)
  | [], _, _ => none
  | (d, c) :: r, n, f => if n < f + c then some (d, f, f + c - 1) else runAt r n (f + c)
def encRun : Option (Str × Int × Int) → D
  | none => .non
  | some (d, a, b) => .tup [.str d, .int a, .int b]
def isPlaceD (a b : Runs) (v : D) : Bool := match v with
  | .tup [.int x, .int y] => decide (0 ≤ x) && decide (0 ≤ y) && (decide (x < total b) && decide (y < total a))
  | _ => false
/-- a town that the program takes -/
structure Town (a b : Runs) : Prop where
  oa : okR "E" "W" a = true
  ob : okR "N" "S" b = true
  la : a.length ≤ sizeLine
  lb : b.length ≤ sizeLine
theorem nice_encP {p : Str × Int} : Nice 2 (encP p) S := ⟨rfl, fun ds e => by
  cases e
  refine ⟨by simp [sizeLine], fun d hd => ?_⟩
  simp at hd
  rcases hd with rfl | rfl
  · exact ⟨rfl, fun _ e => nomatch e⟩
  · exact ⟨rfl, fun _ e => nomatch e⟩⟩
theorem nice_encR {l : Runs} (h : l.length ≤ sizeLine) : Nice 3 (encR l) S := ⟨rfl, fun ds e => by
  cases e
  refine ⟨by simpa using h, fun d hd => ?_⟩
  obtain ⟨p, _, rfl⟩ := List.mem_map.mp hd
  exact nice_encP⟩
theorem Town.nice {a b : Runs} (t : Town a b) : Nice 4 (encC a b) S := ⟨rfl, fun ds e => by
  cases e
  refine ⟨by simp [sizeLine], fun d hd => ?_⟩
  simp at hd
  rcases hd with rfl | rfl
  · exact nice_encR t.la
  · exact nice_encR t.lb⟩
theorem Town.city {a b : Runs} (t : Town a b) : isCityD (encC a b) = true := by
  show (areRunsD "E" "W" (encR a) && areRunsD "N" "S" (encR b)) = true
  rw [areRuns_enc, areRuns_enc, t.oa, t.ob]
  rfl
theorem nice_pt {x y : Int} : Nice 2 (.tup [.int x, .int y]) S := ⟨rfl, fun ds e => by
  cases e
  refine ⟨by simp [sizeLine], fun d hd => ?_⟩
  simp at hd
  rcases hd with rfl | rfl
  · exact ⟨rfl, fun _ e => nomatch e⟩
  · exact ⟨rfl, fun _ e => nomatch e⟩⟩
def inTown (a b : Runs) (x y : Int) : Bool := decide (0 ≤ x) && decide (0 ≤ y) && (decide (x < total b) && decide (y < total a))
/-- the letter of the street with this number -/
def signAt (l : Runs) (n : Int) : Str := ((runAt l n 0).map (·.1)).getD ""
theorem runAt_some : ∀ {l : Runs} {n f : Int}, f ≤ n → n < f + total l → ∃ r, runAt l n f = some r
  | [], n, f, h1, h2 => by simp [total] at h2; omega
  | (d, c) :: l, n, f, h1, h2 => by
    rw [runAt]
    by_cases e : n < f + c
    · rw [if_pos e]
      exact ⟨_, rfl⟩
    · rw [if_neg e]
      have e2 : total ((d, c) :: l) = c + total l := by simp [total]
      exact runAt_some (by omega) (by omega)
def nextD (a b : Runs) (x y : Int) : List (Int × Int) :=
  [(x + (if signAt a y = "E" then 1 else -1), y), (x, y + (if signAt b x = "N" then 1 else -1))].filter fun p => inTown a b p.1 p.2
def encPt (p : Int × Int) : D := .tup [.int p.1, .int p.2]
def Upd (n : Nat) (S S' : Sto) : Prop := S.length ≤ S'.length ∧ ∀ i so, i ≠ n → S[i]? = some so → S'[i]? = some so
theorem Upd.refl (n : Nat) (S : Sto) : Upd n S S := ⟨Nat.le_refl _, fun _ _ _ z => z⟩
theorem Upd.trans {n : Nat} {S T U : Sto} (h : Upd n S T) (k : Upd n T U) : Upd n S U := ⟨Nat.le_trans h.1 k.1, fun i so z e => k.2 i so z (h.2 i so z e)⟩
theorem Ext.upd {n : Nat} {S T : Sto} (h : Ext S T) : Upd n S T := ⟨h.le, fun i so _ e => h.get e⟩
theorem Upd.set {n : Nat} {S : Sto} {so : SO} : Upd n S (S.set n so) := ⟨by simp, fun i so z e => by rw [List.getElem?_set_ne (Ne.symm z)]; exact e⟩
theorem Upd.lst {n : Nat} {S T : Sto} (h : Upd n S T) {i : Nat} {ds : List D} (z : i ≠ n) (e : lstAt S i = some ds) : lstAt T i = some ds := by
  unfold lstAt at e ⊢
  cases q : S[i]? with
  | none => rw [q] at e; cases e
  | some so => rw [q] at e; rw [h.2 i so z q]; exact e
def Src3 (S : Sto) (n : Nat) (c : Int) : Prop := ∃ a m t, S[n]? = some (.lst [.int a, .int m, .int t]) ∧ 0 ≤ a ∧ 0 ≤ m ∧ m < 2 ^ 140 ∧ 0 ≤ t ∧ t ≤ c
theorem Src3.ext {S T : Sto} {n : Nat} {c : Int} (h : Src3 S n c) (x : Ext S T) : Src3 T n c := by
  obtain ⟨a, m, t, h1, h2⟩ := h
  exact ⟨a, m, t, x.get h1, h2⟩
theorem Src3.le {S : Sto} {n : Nat} {c d : Int} (h : Src3 S n c) (x : c ≤ d) : Src3 S n d := by
  obtain ⟨a, m, t, h1, h2, h3, h4, h5, h6⟩ := h
  exact ⟨a, m, t, h1, h2, h3, h4, h5, by omega⟩
theorem setIx_at {S : Sto} {n : Nat} {i : Int} {j : Nat} {d : D} {ds : List D} (h : S[n]? = some (.lst ds)) (e : ixN ds.length i = some j) : setIx (.loc n) (.int i) d S = some (S.set n (.lst (ds.set j d))) := by
  unfold setIx
  simp only [h, e]
  rfl
theorem lst_at {S : Sto} {n : Nat} {ds : List D} (h : S[n]? = some (.lst ds)) : lstAt S n = some ds := by unfold lstAt; rw [h]
theorem get_set {S : Sto} {n : Nat} {so so' : SO} (h : S[n]? = some so) : (S.set n so')[n]? = some so' := by
  rw [List.getElem?_set_self (List.getElem?_eq_some_iff.mp h).1]
theorem log2_lt {i : Int} {k : Nat} (h0 : 0 ≤ i) (h : i < 2 ^ k) (hk : 0 < k) : i.natAbs.log2 < k := by
  by_cases e : i.natAbs = 0
  · rw [e]
    simpa using hk
  · rw [Nat.log2_lt e]
    have : (i.natAbs : Int) < (2 : Int) ^ k := by omega
    exact_mod_cast this
theorem divOk_of {j : Int} {k : Nat} (h0 : 0 < j) (h : j < 2 ^ k) (hk : k ≤ 9000) : divOk j = true := by
  unfold divOk
  have h1 : 0 < k := by
    rcases Nat.eq_zero_or_pos k with e | e
    · subst e
      simp at h
      omega
    · exact e
  have := log2_lt (Int.le_of_lt h0) h h1
  simp [h0]
  omega
theorem powOk_of {i j : Int} {k : Nat} (h0 : 0 ≤ i) (h : i < 2 ^ k) (hk : k ≤ 1000) (hk0 : 0 < k) (j0 : 0 ≤ j) (j1 : j ≤ 1000) : powOk i j = true := by
  unfold powOk
  have := log2_lt h0 h hk0
  simp [j0, j1]
  omega
theorem mulOk_of {i j : Int} {k l : Nat} (h0 : 0 ≤ i) (h : i < 2 ^ k) (hk : 0 < k) (g0 : 0 ≤ j) (g : j < 2 ^ l) (hl : 0 < l) (hkl : k + l ≤ 1000000) : mulOk i j = true := by
  unfold mulOk
  have h1 := log2_lt h0 h hk
  have h2 := log2_lt g0 g hl
  exact decide_eq_true (by omega)
theorem Src3.lt {S : Sto} {n : Nat} {c : Int} (h : Src3 S n c) : n < S.length := by
  obtain ⟨a, m, t, h1, _⟩ := h
  exact (List.getElem?_eq_some_iff.mp h1).1
theorem Src3.of_ne {S T : Sto} {n q : Nat} {c : Int} (h : Src3 S n c) (u : ∀ i so, i ≠ q → S[i]? = some so → T[i]? = some so) (z : n ≠ q) : Src3 T n c := by
  obtain ⟨a, m, t, h1, h2⟩ := h
  exact ⟨a, m, t, u n _ z h1, h2⟩
theorem Upd.setNew {n q : Nat} {S T : Sto} {so : SO} (h : Upd n S T) (hq : S.length ≤ q) : Upd n S (T.set q so) :=
  ⟨by simpa using h.1, fun i so' z e => by
    have := (List.getElem?_eq_some_iff.mp e).1
    rw [List.getElem?_set_ne (by omega)]
    exact h.2 i so' z e⟩
theorem small62_of {i : Int} (h0 : 0 ≤ i) (h1 : i < 2 ^ 62) : small62 i = true := by
  unfold small62
  simp
  omega
theorem rd_get {lo : Int} {n i : Nat} (h : i < n) : (rangeD lo n)[i]? = some (.int (lo + (i : Nat))) := by
  unfold rangeD
  rw [List.getElem?_map, List.getElem?_range h]
  rfl
theorem rangeD_len {lo : Int} {n : Nat} : (rangeD lo n).length = n := by unfold rangeD; simp
/-- a loop over a range -/
theorem ws_range {lo : Int} {m : Nat} {tg : Nat} {b : Env → Sto → Rs} {p : Po} {ρ : Env} {S : Sto} (I : Nat → Env → Sto → Prop)
    (go : ∀ i ρ S, i < m → I i ρ S → Ws (b (ρ.set tg (some (.int (lo + (i : Nat))))) S) { nx := I (i + 1), ct := I (i + 1), bk := p.nx, rt := p.rt, ex := p.ex })
    (fin : ∀ ρ S, I m ρ S → p.nx ρ S) (h : I 0 ρ S) : Ws (forl (.ds (rangeD lo m)) (.var tg) b (Src.size (.ds (rangeD lo m)) S + 1) 0 ρ S) p := by
  refine ws_forl m I (fun i ρ S hi z => ⟨_, _, by show some ((rangeD lo m)[i]?) = _; rw [rd_get hi], rfl, go i ρ S hi z⟩) (fun ρ S z => ⟨by show some ((rangeD lo m)[m]?) = _; rw [List.getElem?_eq_none (by rw [rangeD_len]; omega)], fin ρ S z⟩) _ 0 ρ S (Nat.zero_le _) (by show m < 0 + ((rangeD lo m).length + 1); rw [rangeD_len]; omega) h
theorem mt_any {mm : Mt} {n : Nat} {ds xs ys : List D} {r : D} {S : Sto} {Q : D → Sto → Prop} {E : Nat → List D → Sto → Prop} (h : S[n]? = some (.lst ds)) (hm : mtL mm ds xs S = some (r, ys)) : WR (mtD mm (.loc n) xs S) Q E = Q r (S.set n (.lst ys)) := by
  show WR (match S[n]? with
    | some (.lst ds) => mtW n S (mtL mm ds xs S)
    | _ => .bad) Q E = _
  rw [h]
  show WR (mtW n S (mtL mm ds xs S)) Q E = _
  rw [hm]
  rfl
theorem mt_append {n : Nat} {d : D} {ds : List D} {S : Sto} {Q : D → Sto → Prop} {E : Nat → List D → Sto → Prop} (h : S[n]? = some (.lst ds)) : WR (mtD .append (.loc n) [d] S) Q E = (ds.length < sizeLine ∧ Q .non (S.set n (.lst (ds ++ [d])))) := by
  show WR (match S[n]? with
    | some (.lst ds) => mtW n S (mtL .append ds [d] S)
    | _ => .bad) Q E = _
  rw [h]
  show WR (mtW n S (if ds.length < sizeLine then some (.non, ds ++ [d]) else none)) Q E = _
  by_cases c : ds.length < sizeLine
  · rw [if_pos c]
    show Q _ _ = _
    simp [c]
  · rw [if_neg c]
    show False = _
    simp [c]
theorem isLst_at {n : Nat} {ds : List D} {S : Sto} (h : S[n]? = some (.lst ds)) : isLst (.loc n) S = true := by
  show (lstAt S n).isSome = true
  rw [lst_at h]
  rfl
theorem ascR_cons {x y : Str × Int} {l : Runs} : ascR (x :: y :: l) = (x.1 != y.1 && ascR (y :: l)) := by
  simp [ascR]
def AltR (a b : Str) (s : Int) (l : Runs) : Prop := ∀ j p, l[j]? = some p → p.1 = if (s + (j : Nat)) % 2 = 0 then a else b
def BndR (B : Int) (l : Runs) : Prop := ∀ p ∈ l, 1 ≤ p.2 ∧ p.2 ≤ B
theorem BndR.add {B : Int} {l : Runs} {p : Str × Int} (h : BndR B l) (h1 : 1 ≤ p.2) (h2 : p.2 ≤ B) : BndR B (l ++ [p]) := by
  intro q hq
  rcases List.mem_append.mp hq with z | z
  · exact h q z
  · rw [List.mem_singleton.mp z]
    exact ⟨h1, h2⟩
theorem AltR.add {a b : Str} {s : Int} {l : Runs} {p : Str × Int} (h : AltR a b s l) (e : p.1 = if (s + (l.length : Nat)) % 2 = 0 then a else b) : AltR a b s (l ++ [p]) := by
  intro j q hq
  by_cases hj : j < l.length
  · rw [List.getElem?_append_left hj] at hq
    exact h j q hq
  · rw [List.getElem?_append_right (by omega)] at hq
    have : j = l.length := by
      have := (List.getElem?_eq_some_iff.mp hq).1
      simp at this
      omega
    subst this
    simp at hq
    subst hq
    exact e
theorem ascR_alt {a b : Str} (hab : a ≠ b) : ∀ {l : Runs} {s : Int}, AltR a b s l → ascR l = true
  | [], _, _ => rfl
  | [_], _, _ => rfl
  | x :: y :: l, s, h => by
    rw [ascR_cons]
    have h0 := h 0 x rfl
    have h1 := h 1 y rfl
    have h2 : ascR (y :: l) = true := ascR_alt hab (s := s + 1) fun j p e => by
      have := h (j + 1) p e
      rw [this]
      have e2 : s + ((j + 1 : Nat) : Int) = s + 1 + (j : Nat) := by omega
      rw [e2]
    rw [h2, Bool.and_true, bne_iff_ne, h0, h1]
    split <;> split
    · omega
    · exact hab
    · exact hab.symm
    · omega
theorem mapM_some {α β γ : Type} {g : β → Option γ} {f : α → β} {h : α → γ} : ∀ {l : List α}, (∀ x ∈ l, g (f x) = some (h x)) → (l.map f).mapM g = some (l.map h)
  | [], _ => rfl
  | x :: l, e => by
    rw [List.map_cons, List.mapM_cons, e x List.mem_cons_self, mapM_some fun y hy => e y (List.mem_cons_of_mem _ hy)]
    rfl
theorem toP_tup {S : Sto} {n : Nat} {ds : List D} : toP S (n + 1) (.tup ds) = (ds.mapM (toP S n)).map .tuple := by simp [toP]
theorem toP_loc {S : Sto} {n m : Nat} : toP S (n + 1) (.loc m) = (lstAt S m).bind fun ds => (ds.mapM (toP S n)).map .list := by simp [toP]
theorem toP_str {S : Sto} {n : Nat} {x : Str} : toP S n (.str x) = some (.str x) := by cases n <;> simp [toP]
theorem toP_int {S : Sto} {n : Nat} {x : Int} : toP S n (.int x) = some (.int x) := by cases n <;> simp [toP]
def pP (p : Str × Int) : PyData := .tuple [.str p.1, .int p.2]
def pR (l : Runs) : PyData := .tuple (l.map pP)
def pC (a b : Runs) : PyData := .tuple [pR a, pR b]
def pPt (p : Int × Int) : PyData := .tuple [.int p.1, .int p.2]
theorem toP_encP {S : Sto} {n : Nat} {p : Str × Int} : toP S (n + 1) (encP p) = some (pP p) := by
  rw [encP, toP_tup]
  simp [toP_str, toP_int, pP]
theorem toP_encR {S : Sto} {n : Nat} {l : Runs} : toP S (n + 2) (encR l) = some (pR l) := by
  rw [encR, toP_tup, mapM_some (h := pP) fun p _ => toP_encP]
  rfl
theorem toP_encC {S : Sto} {n : Nat} {a b : Runs} : toP S (n + 3) (encC a b) = some (pC a b) := by
  rw [encC, toP_tup]
  simp [toP_encR, pC]
theorem toP_encPt {S : Sto} {n : Nat} {p : Int × Int} : toP S (n + 1) (encPt p) = some (pPt p) := by
  rw [encPt, toP_tup]
  simp [toP_int, pPt]
theorem toP_pts {S : Sto} {n m : Nat} {l : List (Int × Int)} (h : lstAt S m = some (l.map encPt)) : toP S (n + 2) (.loc m) = some (.list (l.map pPt)) := by
  rw [toP_loc, h]
  show Option.map PyData.list (List.mapM (toP S (n + 1)) (l.map encPt)) = _
  rw [mapM_some (h := pPt) fun p _ => toP_encPt]
  rfl
theorem pts_ok : ∀ l : List (Int × Int), PyData.canLayAll0 (l.map pPt) = true ∧ PyData.depthAll (l.map pPt) ≤ 1
  | [] => ⟨rfl, by decide⟩
  | p :: l => by
    obtain ⟨h1, h2⟩ := pts_ok l
    refine ⟨?_, ?_⟩
    · rw [List.map_cons, PyData.canLayAll0, h1]
      rfl
    · rw [List.map_cons, PyData.depthAll]
      have : (pPt p).depth = 1 := rfl
      omega
theorem pts_shaped (l : List (Int × Int)) : SeqAt.shaped (.list (l.map pPt)) = true := by
  obtain ⟨h1, h2⟩ := pts_ok l
  unfold SeqAt.shaped
  have e1 : PyData.canLay0 (.list (l.map pPt)) = true := h1
  have e2 : PyData.depth (.list (l.map pPt)) ≤ 64 := by rw [PyData.depth]; omega
  simp [e1, e2]
theorem eq_pts {S : Sto} {m n : Nat} {l : List (Int × Int)} (h1 : lstAt S m = some (l.map encPt)) (h2 : lstAt S n = some (l.map encPt)) : cmpD .Eq (.loc m) (.loc n) S = some true := by
  show eqD (.loc m) (.loc n) S = some true
  unfold eqD
  rw [toP_pts h1, toP_pts h2]
  have e : PyData.eqv (.list (l.map pPt)) (.list (l.map pPt)) = true := SeqAt.eqv_refl _ (pts_ok l).1
  simp [pts_shaped, e]
theorem ne_pts {S : Sto} {m n : Nat} {l : List (Int × Int)} (h1 : lstAt S m = some (l.map encPt)) (h2 : lstAt S n = some (l.map encPt)) : cmpD .NotEq (.loc m) (.loc n) S = some false := by
  have := eq_pts h1 h2
  show (qEq _ _ _).map _ = _
  have e : qEq (.loc m) (.loc n) S = some true := this
  rw [e]
  rfl
theorem isi_list {S : Sto} {n : Nat} {ds : List D} (h : S[n]? = some (.lst ds)) : isinst (.loc n) (.ty "list") S = some true := by
  have e : tyOfD (.loc n) S = some "list" := by
    show (match S[n]? with
      | some (.lst _) => some "list"
      | some (.dic _) => some "dict"
      | _ => none) = _
    rw [h]
  exact (isi_of e (by decide +kernel)).trans (congrArg some (by decide +kernel))
/-- bounds that let repr be asked -/
structure TownB (a b : Runs) : Prop where
  oa : okR "E" "W" a = true
  ob : okR "N" "S" b = true
  la : a.length ≤ 20
  lb : b.length ≤ 20
  ba : BndR (10 ^ 30) a
  bb : BndR (10 ^ 30) b
theorem TownB.town {a b : Runs} (t : TownB a b) : Town a b := ⟨t.oa, t.ob, by have := t.la; unfold sizeLine; omega, by have := t.lb; unfold sizeLine; omega⟩
theorem okR_mem {a b : Str} {l : Runs} (h : okR a b l = true) {p : Str × Int} (hp : p ∈ l) : (p.1 = a ∨ p.1 = b) ∧ 1 ≤ p.2 := by
  unfold okR at h
  simp only [Bool.and_eq_true] at h
  have := List.all_eq_true.mp h.1.2 p hp
  simpa using this
def letter (x : Str) : Prop := x = "E" ∨ x = "W" ∨ x = "N" ∨ x = "S"
theorem runs_rep : ∀ {l : Runs}, (∀ p ∈ l, letter p.1 ∧ 1 ≤ p.2 ∧ p.2 ≤ 10 ^ 30) → PyData.showableAll (l.map pP) = true ∧ PyData.canLayAll0 (l.map pP) = true ∧ PyData.depthAll (l.map pP) ≤ 1 ∧ shBs (l.map pP) ≤ 200 * l.length
  | [], _ => ⟨rfl, rfl, by decide, by decide⟩
  | p :: l, h => by
    obtain ⟨h1, h2, h3, h4⟩ := runs_rep (l := l) fun q hq => h q (List.mem_cons_of_mem _ hq)
    obtain ⟨hl, b1, b2⟩ := h p List.mem_cons_self
    have lg : p.2.natAbs.log2 < 100 := log2_lt (by omega) (by omega) (by decide)
    have hs : (reprText p.1).length ≤ 3 ∧ PyData.canLay0 (.str p.1) = true := by
      rcases hl with e | e | e | e <;> rw [e] <;> decide +kernel
    have c1 : PyData.showable (pP p) = true := by
      show PyData.showableAll [.str p.1, .int p.2] = true
      simp only [PyData.showableAll, PyData.showable, Bool.and_true, Bool.true_and]
      exact decide_eq_true (by omega)
    have c2 : PyData.canLay0 (pP p) = true := by
      show PyData.canLayAll0 [.str p.1, .int p.2] = true
      simp only [PyData.canLayAll0, hs.2, Bool.and_true, Bool.true_and]
      rfl
    have c3 : (pP p).depth = 1 := rfl
    have c4 : shB (pP p) + 2 ≤ 200 := by
      show shBs [.str p.1, .int p.2] + 3 + 2 ≤ 200
      simp only [shBs, shB]
      omega
    refine ⟨?_, ?_, ?_, ?_⟩
    · rw [List.map_cons, PyData.showableAll, c1, h1]; rfl
    · rw [List.map_cons, PyData.canLayAll0, c2, h2]; rfl
    · rw [List.map_cons, PyData.depthAll]; omega
    · rw [List.map_cons, shBs, List.length_cons]; omega
theorem rep_town {S : Sto} {a b : Runs} (t : TownB a b) : repD (encC a b) S = some (.str (pC a b).shown) := by
  have ha := runs_rep (l := a) fun p hp => ⟨by rcases (okR_mem t.oa hp).1 with e | e <;> simp [letter, e], t.ba p hp⟩
  have hb := runs_rep (l := b) fun p hp => ⟨by rcases (okR_mem t.ob hp).1 with e | e <;> simp [letter, e], t.bb p hp⟩
  have la := t.la
  have lb := t.lb
  show repP (toP S 50 (encC a b)) = _
  rw [toP_encC]
  have ok : repOk (pC a b) = true := by
    unfold repOk
    have c1 : (pC a b).showable = true := by
      show PyData.showableAll [pR a, pR b] = true
      simp only [PyData.showableAll, pR, PyData.showable, ha.1, hb.1]
      rfl
    have c2 : (pC a b).canLay0 = true := by
      show PyData.canLayAll0 [pR a, pR b] = true
      simp only [PyData.canLayAll0, pR, PyData.canLay0, ha.2.1, hb.2.1]
      rfl
    have c3 : (pC a b).depth ≤ 64 := by
      show PyData.depthAll [pR a, pR b] + 1 ≤ 64
      simp only [PyData.depthAll, pR, PyData.depth]
      omega
    have c4 : shB (pC a b) ≤ sizeLine := by
      show shBs [pR a, pR b] + 3 ≤ sizeLine
      simp only [shBs, pR, shB]
      unfold sizeLine
      omega
    simp [c1, c2, c3, c4]
  unfold repP
  show (if repOk (pC a b) = true then _ else _) = _
  rw [if_pos ok]
theorem atI_of {α : Type} {xs : List α} {i : Int} (h0 : 0 ≤ i) (h : i.toNat < xs.length) : atI xs i = some xs[i.toNat] := by
  obtain ⟨j, rfl⟩ := Int.eq_ofNat_of_zero_le h0
  exact atI_nat (List.getElem?_eq_getElem h)
theorem s_seq {n : Nat} {C : CallSem} {G : Nat → Option D} {ρ : Env} {S : Sto} {p : Po} {A B : Sx} (I : Env → Sto → Prop) (h1 : Ws (run n C G A ρ S) { p with nx := I }) (h2 : ∀ ρ S, I ρ S → Ws (run n C G B ρ S) p) : Ws (run n C G (.cons A B) ρ S) p := by
  rw [s_cons]
  exact Ws.mono h1 h2 (fun _ _ z => z) (fun _ _ z => z) (fun _ _ z => z) (fun _ _ _ _ z => z)
theorem Ext.of_get {S T : Sto} (h : ∀ (i : Nat) (so : SO), S[i]? = some so → T[i]? = some so) : Ext S T := by
  have hl : S.length ≤ T.length := by
    rcases Nat.eq_zero_or_pos S.length with e | e
    · omega
    · have := h (S.length - 1) _ (List.getElem?_eq_getElem (by omega))
      have := (List.getElem?_eq_some_iff.mp this).1
      omega
  refine ⟨T.drop S.length, ?_⟩
  apply List.ext_getElem?
  intro i
  by_cases hi : i < S.length
  · rw [List.getElem?_append_left hi, List.getElem?_eq_getElem hi]
    exact h i _ (List.getElem?_eq_getElem hi)
  · rw [List.getElem?_append_right (by omega), List.getElem?_drop]
    congr 1
    omega
theorem Ext.setNew {S T : Sto} {q : Nat} {so : SO} (h : Ext S T) (hq : S.length ≤ q) : Ext S (T.set q so) := .of_get fun i so' e => by
  have := (List.getElem?_eq_some_iff.mp e).1
  rw [List.getElem?_set_ne (by omega)]
  exact h.get e
theorem ixS0 {S : Sto} : ixD (.str "EW") (.int 0) S = some (.str "E") ∧ ixD (.str "EW") (.int 1) S = some (.str "W") ∧ ixD (.str "NS") (.int 0) S = some (.str "N") ∧ ixD (.str "NS") (.int 1) S = some (.str "S") := by
  refine ⟨?_, ?_, ?_, ?_⟩ <;> rfl
theorem total_cons {p : Str × Int} {l : Runs} : total (p :: l) = p.2 + total l := by simp [total]
def signL : Runs → Int → Str
  | [], _ => ""
  | (d, c) :: r, n => if n < c then d else signL r (n - c)
theorem signL_at : ∀ {l : Runs} {n f : Int}, ((runAt l n f).map fun r => r.1).getD ("" : Str) = signL l (n - f)
  | [], n, f => rfl
  | (d, c) :: l, n, f => by
    rw [runAt, signL]
    by_cases e : n < f + c
    · rw [if_pos e, if_pos (by omega)]
      rfl
    · rw [if_neg e, if_neg (by omega), signL_at]
      congr 1
      omega
theorem signAt_eq {l : Runs} {n : Int} : signAt l n = signL l n := by
  unfold signAt
  rw [signL_at]
  congr 1
  omega
theorem runAt_mem {a b : Str} : ∀ {l : Runs} {n : Int}, (∀ p ∈ l, p.1 = a ∨ p.1 = b) → 0 ≤ n → n < total l → signL l n = a ∨ signL l n = b
  | [], n, _, h1, h2 => by simp [total] at h2; omega
  | (d, c) :: l, n, h, h1, h2 => by
    rw [signL]
    rw [total_cons] at h2
    by_cases e : n < c
    · rw [if_pos e]
      exact h (d, c) List.mem_cons_self
    · rw [if_neg e]
      exact runAt_mem (fun p hp => h p (List.mem_cons_of_mem _ hp)) (by omega) (by have : (d, c).2 = c := rfl; omega)
theorem total_pos {a b : Str} : ∀ {l : Runs}, okR a b l = true → 0 < total l := by
  intro l h
  have h1 : ∀ p ∈ l, 1 ≤ p.2 := fun p hp => (okR_mem h hp).2
  have h2 : l ≠ [] := by
    intro z
    subst z
    cases h
  clear h
  induction l with
  | nil => exact absurd rfl h2
  | cons p l ih =>
    rw [total_cons]
    have p1 := h1 p List.mem_cons_self
    cases l with
    | nil => show 0 < p.2 + 0; omega
    | cons q l =>
      have := ih (fun r hr => h1 r (List.mem_cons_of_mem _ hr)) (by simp)
      omega
theorem total_le {B : Int} (hB : 0 ≤ B) : ∀ {l : Runs}, BndR B l → total l ≤ l.length * B
  | [], _ => by simp [total]
  | p :: l, h => by
    have h1 := (h p List.mem_cons_self).2
    have h2 := total_le hB (l := l) fun q hq => h q (List.mem_cons_of_mem _ hq)
    rw [total_cons]
    have e : ((p :: l).length : Int) * B = l.length * B + B := by
      rw [List.length_cons]
      push_cast
      rw [Int.add_mul]
      omega
    omega
def NumsAt (S : Sto) (q : Nat) (m : Int) : Prop := ∃ ns : List Int, S[q]? = some (.lst (ns.map D.int)) ∧ ns.length ≤ 100 ∧ ∀ z ∈ ns, 0 ≤ z ∧ z < m
theorem lst_add {S : Sto} {m n : Nat} {a b : List D} {Q : D → Sto → Prop} {E : Nat → List D → Sto → Prop} (h1 : S[m]? = some (.lst a)) (h2 : S[n]? = some (.lst b)) (hl : a.length + b.length ≤ sizeLine) : WR (binD .Add (.loc m) (.loc n) S) Q E = Q (.loc S.length) (S ++ [.lst (a ++ b)]) := by
  show WR (match S[m]?, S[n]? with
    | some (.lst a), some (.lst b) => if a.length + b.length ≤ sizeLine then mk (.lst (a ++ b)) S else .bad
    | _, _ => .bad) Q E = _
  rw [h1, h2]
  show WR (if a.length + b.length ≤ sizeLine then mk (.lst (a ++ b)) S else .bad) Q E = _
  rw [if_pos hl]
  rfl
theorem ws_ints {q : Nat} {ms : List Int} {tg : Nat} {b : Env → Sto → Rs} {p : Po} {ρ : Env} {S : Sto} (I : Nat → Env → Sto → Prop)
    (hg : ∀ i ρ S, I i ρ S → lstAt S q = some (ms.map D.int))
    (go : ∀ i ρ S (hi : i < ms.length), I i ρ S → Ws (b (ρ.set tg (some (.int ms[i]))) S) { nx := I (i + 1), ct := I (i + 1), bk := p.nx, rt := p.rt, ex := p.ex })
    (fin : ∀ ρ S, I ms.length ρ S → p.nx ρ S) (h : I 0 ρ S) : Ws (forl (.lst q) (.var tg) b (Src.size (.lst q) S + 1) 0 ρ S) p := by
  have sz : Src.size (.lst q) S = ms.length := by show ((lstAt S q).getD []).length = _; rw [hg 0 ρ S h]; simp
  refine ws_forl ms.length I (fun i ρ S hi z => ⟨.int ms[i], _, ?_, rfl, go i ρ S hi z⟩) (fun ρ S z => ⟨?_, fin ρ S z⟩) _ 0 ρ S (Nat.zero_le _) (by rw [sz]; omega) h
  · show (lstAt S q).map _ = _
    rw [hg i ρ S z]
    show some ((ms.map D.int)[i]?) = _
    rw [List.getElem?_map, List.getElem?_eq_getElem hi]
    rfl
  · show (lstAt S q).map _ = _
    rw [hg _ ρ S z]
    show some ((ms.map D.int)[ms.length]?) = _
    simp
theorem pick2 {S : Sto} {q : Nat} {r u v : Int} (h : lstAt S q = some [.int u, .int v]) (h0 : 0 ≤ r) (h1 : r < 2) : ∃ z, ixD (.loc q) (.int r) S = some (.int z) ∧ (z = u ∨ z = v) := by
  rcases (by omega : r = 0 ∨ r = 1) with rfl | rfl
  · exact ⟨u, by rw [x_loc, h]; show atI [D.int u, D.int v] 0 = _; exact at0, .inl rfl⟩
  · exact ⟨v, by rw [x_loc, h]; show atI [D.int u, D.int v] 1 = _; exact at1, .inr rfl⟩
end
end CC

namespace CC
open PySem PySem.Spec PyProof.Rows L2
/-! ### the text of the law, by gen.py -/
def topS (i : Nat) : Stmt := PySem.Challenge.pw_cornercity_k02_sizes_and_directions.main.body.getD i (.Pass ⟨0, 0, 0, 0⟩)
abbrev s_is_integer : Stmt := topS 11
abbrev s_is_run : Stmt := topS 12
abbrev s_are_runs : Stmt := topS 13
abbrev s_is_city : Stmt := topS 14
abbrev s_check_city : Stmt := topS 15
abbrev s_count_streets : Stmt := topS 16
abbrev s_street_run : Stmt := topS 17
abbrev s_is_street : Stmt := topS 18
abbrev s_is_place : Stmt := topS 19
abbrev s_check_street : Stmt := topS 20
abbrev s_grid_size : Stmt := topS 21
abbrev s_direction_of : Stmt := topS 22
abbrev s_street_direction : Stmt := topS 23
abbrev s_is_point : Stmt := topS 24
abbrev s__law_source : Stmt := topS 26
abbrev s__law_draw : Stmt := topS 27
abbrev s__law_runs : Stmt := topS 28
abbrev s__law_town : Stmt := topS 29
abbrev s__law_size : Stmt := topS 30
abbrev s__law_sign : Stmt := topS 31
abbrev s__law_told : Stmt := topS 32
abbrev s__law_numbers : Stmt := topS 33
abbrev s_law : Stmt := topS 34
abbrev nm_is_integer : List Str := ["value", "low"]
abbrev nm_is_run : List Str := ["value", "directions"]
abbrev nm_are_runs : List Str := ["value", "directions", "one", "other", "run"]
abbrev nm_is_city : List Str := ["value"]
abbrev nm_check_city : List Str := ["city"]
abbrev nm_count_streets : List Str := ["runs", "direction", "count"]
abbrev nm_street_run : List Str := ["runs", "number", "first", "direction", "count"]
abbrev nm_is_street : List Str := ["city", "value"]
abbrev nm_is_place : List Str := ["city", "value", "number"]
abbrev nm_check_street : List Str := ["city", "street"]
abbrev nm_grid_size : List Str := ["city"]
abbrev nm_direction_of : List Str := ["city", "street"]
abbrev nm_street_direction : List Str := ["city", "street"]
abbrev nm_is_point : List Str := ["city", "value"]
abbrev nm__law_source : List Str := ["_law_script", "_law_k", "_law_cell"]
abbrev nm__law_draw : List Str := ["_law_source_here", "_law_bound", "_law_found", "_law_mixed"]
abbrev nm__law_runs : List Str := ["_law_source_here", "_law_pair", "_law_most", "_law_wide", "_law_at", "_law_found", "_law_k", "_law_count"]
abbrev nm__law_town : List Str := ["_law_source_here", "_law_most", "_law_wide"]
abbrev nm__law_size : List Str := ["_law_runs_here", "_law_total", "_law_sign_here", "_law_many"]
abbrev nm__law_sign : List Str := ["_law_runs_here", "_law_number", "_law_left", "_law_sign_here", "_law_many"]
abbrev nm__law_told : List Str := ["_law_town_here", "_law_word", "_law_number", "_law_named", "_law_found"]
abbrev nm__law_numbers : List Str := ["_law_source_here", "_law_runs_here", "_law_total", "_law_found", "_law_sign_here", "_law_many", "_law_step"]
abbrev nm_law : List Str := ["_law_script", "_law_k", "_law_source_here", "_law_turn", "_law_most", "_law_town_here", "_law_before", "_law_high", "_law_wide", "_law_spots", "_law_axis", "_law_word", "_law_number", "_law_due", "_law_y", "_law_x"]
abbrev f_is_integer : Nat := 0
abbrev f_is_run : Nat := 1
abbrev f_are_runs : Nat := 2
abbrev f_is_city : Nat := 3
abbrev f_check_city : Nat := 4
abbrev f_count_streets : Nat := 5
abbrev f_street_run : Nat := 6
abbrev f_is_street : Nat := 7
abbrev f_is_place : Nat := 8
abbrev f_check_street : Nat := 9
abbrev f_grid_size : Nat := 10
abbrev f_direction_of : Nat := 11
abbrev f_street_direction : Nat := 12
abbrev f_is_point : Nat := 13
abbrev f__law_source : Nat := 14
abbrev f__law_draw : Nat := 15
abbrev f__law_runs : Nat := 16
abbrev f__law_town : Nat := 17
abbrev f__law_size : Nat := 18
abbrev f__law_sign : Nat := 19
abbrev f__law_told : Nat := 20
abbrev f__law_numbers : Nat := 21
abbrev f_law : Nat := 22
def bd_is_integer : Sx := (.cons (.ret (.and (.bi .isinst (.cons (.var 0) (.cons (.tyc "int") .nil))) (.and (.nt (.bi .isinst (.cons (.var 0) (.cons (.tyc
  "bool") .nil)))) (.cmp .GtE (.var 0) (.var 1))))) .nil)
def bd_is_run : Sx := (.cons (.iff (.or (.nt (.bi .isinst (.cons (.var 0) (.cons (.tyc "tuple") .nil)))) (.cmp .NotEq (.bi .len (.cons (.var 0) .nil)) (.int
  2))) (.cons (.ret (.bl false)) .nil) .nil) (.cons (.ret (.and (.bi .isinst (.cons (.ix (.var 0) (.int 0)) (.cons (.tyc "str") .nil))) (.and (.cmp .In (.ix
  (.var 0) (.int 0)) (.var 1)) (.call 0 (.cons (.ix (.var 0) (.int 1)) (.cons (.int 1) .nil)))))) .nil))
def bd_are_runs : Sx := (.cons (.iff (.or (.nt (.bi .isinst (.cons (.var 0) (.cons (.tyc "tuple") .nil)))) (.or (.cmp .Eq (.bi .len (.cons (.var 0) .nil))
  (.int 0)) (.nt (.bi .all (.cons (.lc (.itr (.var 0)) (.var 4) (.call 1 (.cons (.var 4) (.cons (.var 1) .nil))) (.bl true) [4]) .nil))))) (.cons (.ret (.bl
  false)) .nil) .nil) (.cons (.ret (.bi .all (.cons (.lc (.zip2 (.var 0) (.sl (.var 0) (.cons (.int 1) .nil) .nil)) (.tup (.cons (.var 2) (.cons (.var 3)
  .nil))) (.cmp .NotEq (.ix (.var 2) (.int 0)) (.ix (.var 3) (.int 0))) (.bl true) [2, 3]) .nil))) .nil))
def bd_is_city : Sx := (.cons (.iff (.or (.nt (.bi .isinst (.cons (.var 0) (.cons (.tyc "tuple") .nil)))) (.cmp .NotEq (.bi .len (.cons (.var 0) .nil)) (.int
  2))) (.cons (.ret (.bl false)) .nil) .nil) (.cons (.ret (.and (.call 2 (.cons (.ix (.var 0) (.int 0)) (.cons (.tup (.cons (.glo 0) (.cons (.glo 1) .nil)))
  .nil))) (.call 2 (.cons (.ix (.var 0) (.int 1)) (.cons (.tup (.cons (.glo 2) (.cons (.glo 3) .nil))) .nil))))) .nil))
def bd_check_city : Sx := (.cons (.iff (.nt (.call 3 (.cons (.var 0) .nil))) (.cons (.rse 1 .nil) .nil) .nil) .nil)
def bd_count_streets : Sx := (.cons (.ret (.bi .sum (.cons (.lc (.itr (.var 0)) (.tup (.cons (.var 1) (.cons (.var 2) .nil))) (.var 2) (.bl true) [1, 2])
  .nil))) .nil)
def bd_street_run : Sx := (.cons (.asg (.var 2) (.int 0)) (.cons (.for_ (.tup (.cons (.var 3) (.cons (.var 4) .nil))) (.itr (.var 0)) (.cons (.iff (.cmp .Lt
  (.var 1) (.bin .Add (.var 2) (.var 4))) (.cons (.ret (.tup (.cons (.var 3) (.cons (.var 2) (.cons (.bin .Sub (.bin .Add (.var 2) (.var 4)) (.int 1))
  .nil))))) .nil) .nil) (.cons (.aug 2 .Add (.var 4)) .nil))) (.cons (.ret .non) .nil)))
def bd_is_street : Sx := (.cons (.iff (.or (.nt (.bi .isinst (.cons (.var 1) (.cons (.tyc "tuple") .nil)))) (.or (.cmp .NotEq (.bi .len (.cons (.var 1) .nil))
  (.int 2)) (.nt (.bi .isinst (.cons (.ix (.var 1) (.int 0)) (.cons (.tyc "str") .nil)))))) (.cons (.ret (.bl false)) .nil) .nil) (.cons (.iff (.or (.cmp
  .NotIn (.ix (.var 1) (.int 0)) (.tup (.cons (.glo 4) (.cons (.glo 5) .nil)))) (.nt (.call 0 (.cons (.ix (.var 1) (.int 1)) (.cons (.int 0) .nil))))) (.cons
  (.ret (.bl false)) .nil) .nil) (.cons (.ret (.cmp .Lt (.ix (.var 1) (.int 1)) (.call 5 (.cons (.ix (.var 0) (.bi .int (.cons (.cmp .Eq (.ix (.var 1) (.int
  0)) (.glo 5)) .nil))) .nil)))) .nil)))
def bd_is_place : Sx := (.cons (.iff (.or (.nt (.bi .isinst (.cons (.var 1) (.cons (.tyc "tuple") .nil)))) (.or (.cmp .NotEq (.bi .len (.cons (.var 1) .nil))
  (.int 2)) (.nt (.bi .all (.cons (.lc (.itr (.var 1)) (.var 2) (.call 0 (.cons (.var 2) (.cons (.int 0) .nil))) (.bl true) [2]) .nil))))) (.cons (.ret (.bl
  false)) .nil) .nil) (.cons (.ret (.and (.cmp .Lt (.ix (.var 1) (.int 0)) (.call 5 (.cons (.ix (.var 0) (.int 1)) .nil))) (.cmp .Lt (.ix (.var 1) (.int 1))
  (.call 5 (.cons (.ix (.var 0) (.int 0)) .nil))))) .nil))
def bd_check_street : Sx := (.cons (.iff (.nt (.call 7 (.cons (.var 0) (.cons (.var 1) .nil)))) (.cons (.rse 2 .nil) .nil) .nil) .nil)
def bd_grid_size : Sx := (.cons (.ex (.call 4 (.cons (.var 0) .nil))) (.cons (.ret (.tup (.cons (.call 5 (.cons (.ix (.var 0) (.int 1)) .nil)) (.cons (.call 5
  (.cons (.ix (.var 0) (.int 0)) .nil)) .nil)))) .nil))
def bd_direction_of : Sx := (.cons (.ret (.ix (.call 6 (.cons (.ix (.var 0) (.bi .int (.cons (.cmp .Eq (.ix (.var 1) (.int 0)) (.glo 5)) .nil))) (.cons (.ix
  (.var 1) (.int 1)) .nil))) (.int 0))) .nil)
def bd_street_direction : Sx := (.cons (.ex (.call 4 (.cons (.var 0) .nil))) (.cons (.ex (.call 9 (.cons (.var 0) (.cons (.var 1) .nil)))) (.cons (.ret (.call
  11 (.cons (.var 0) (.cons (.var 1) .nil)))) .nil)))
def bd_is_point : Sx := (.cons (.ex (.call 4 (.cons (.var 0) .nil))) (.cons (.ret (.call 8 (.cons (.var 0) (.cons (.var 1) .nil)))) .nil))
def bd__law_source : Sx := (.cons (.asg (.var 2) (.ife (.cmp .Lt (.var 1) (.bi .len (.cons (.var 0) .nil))) (.ix (.var 0) (.var 1)) (.int 0))) (.cons (.ret
  (.lst (.cons (.bi .max (.cons (.int 0) (.cons (.bin .Sub (.bi .abs (.cons (.var 2) .nil)) (.bin .Pow (.int 10) (.int 18))) .nil))) (.cons (.bin .Add (.bin
  .Mod (.var 2) (.bin .Add (.bin .Pow (.int 10) (.int 40)) (.int 121))) (.bin .Mult (.int 39916801) (.var 1))) (.cons (.int 0) .nil))))) .nil))
def bd__law_draw : Sx := (.cons (.iff (.cmp .Gt (.ix (.var 0) (.int 0)) (.int 0)) (.cons (.asg (.var 2) (.bin .Mod (.ix (.var 0) (.int 0)) (.var 1))) (.cons
  (.asg (.ix (.var 0) (.int 0)) (.bin .FloorDiv (.ix (.var 0) (.int 0)) (.var 1))) (.cons (.ret (.var 2)) .nil))) .nil) (.cons (.asg (.ix (.var 0) (.int 2))
  (.bin .Add (.ix (.var 0) (.int 2)) (.int 1))) (.cons (.asg (.var 3) (.bin .Mod (.bin .Pow (.bin .Add (.ix (.var 0) (.int 1)) (.bin .Mult (.int 179424673)
  (.ix (.var 0) (.int 2)))) (.int 3)) (.bin .Add (.bin .Pow (.int 10) (.int 41)) (.int 37)))) (.cons (.asg (.var 3) (.bin .Mod (.bin .Pow (.bin .Add (.var 3)
  (.bin .Mult (.int 22801763489) (.ix (.var 0) (.int 2)))) (.int 3)) (.bin .Add (.bin .Pow (.int 10) (.int 40)) (.int 121)))) (.cons (.ret (.bin .Mod (.bin
  .FloorDiv (.var 3) (.int 262147)) (.var 1))) .nil)))))
def bd__law_runs : Sx := (.cons (.par [4, 5] (.cons (.call 15 (.cons (.var 0) (.cons (.int 2) .nil))) (.cons (.lst .nil) .nil))) (.cons (.for_ (.var 6) (.rng1
  (.bin .Add (.int 1) (.call 15 (.cons (.var 0) (.cons (.var 2) .nil))))) (.cons (.asg (.var 7) (.ix (.lst (.cons (.int 1) (.cons (.bin .Add (.int 1) (.call 15
  (.cons (.var 0) (.cons (.int 3) .nil)))) (.cons (.bin .Add (.int 1) (.call 15 (.cons (.var 0) (.cons (.var 3) .nil)))) .nil)))) (.call 15 (.cons (.var 0)
  (.cons (.int 3) .nil))))) (.cons (.ex (.mt .append (.var 5) (.cons (.tup (.cons (.ix (.var 1) (.bin .Mod (.bin .Add (.var 4) (.var 6)) (.int 2))) (.cons
  (.var 7) .nil))) .nil))) .nil))) (.cons (.ret (.bi .tuple (.cons (.var 5) .nil))) .nil)))
def bd__law_town : Sx := (.cons (.ret (.tup (.cons (.call 16 (.cons (.var 0) (.cons (.str "EW") (.cons (.var 1) (.cons (.var 2) .nil))))) (.cons (.call 16
  (.cons (.var 0) (.cons (.str "NS") (.cons (.var 1) (.cons (.var 2) .nil))))) .nil)))) .nil)
def bd__law_size : Sx := (.cons (.asg (.var 1) (.int 0)) (.cons (.for_ (.tup (.cons (.var 2) (.cons (.var 3) .nil))) (.itr (.var 0)) (.cons (.asg (.var 1)
  (.bin .Add (.var 1) (.var 3))) .nil)) (.cons (.ret (.var 1)) .nil)))
def bd__law_sign : Sx := (.cons (.iff (.cmp .Lt (.var 1) (.int 0)) (.cons (.ret (.str "")) .nil) .nil) (.cons (.asg (.var 2) (.var 1)) (.cons (.for_ (.tup
  (.cons (.var 3) (.cons (.var 4) .nil))) (.itr (.var 0)) (.cons (.iff (.cmp .Lt (.var 2) (.var 4)) (.cons (.ret (.var 3)) .nil) .nil) (.cons (.asg (.var 2)
  (.bin .Sub (.var 2) (.var 4))) .nil))) (.cons (.ret (.str "")) .nil))))
def bd__law_told : Sx := (.cons (.asg (.var 4) (.str "")) (.cons (.tryS (.cons (.iff (.var 3) (.cons (.asg (.var 4) (.callk 12 .nil (.cons (.var 0) (.cons
  (.tup (.cons (.var 1) (.cons (.var 2) .nil))) .nil)) [0, 1])) .nil) (.cons (.asg (.var 4) (.call 12 (.cons (.var 0) (.cons (.tup (.cons (.var 1) (.cons (.var
  2) .nil))) .nil)))) .nil)) .nil) [(0, false), (1, false), (2, true)] (.cons (.asg (.var 4) (.str "")) .nil)) (.cons (.ret (.var 4)) .nil)))
def bd__law_numbers : Sx := (.cons (.asg (.tup (.cons (.var 2) (.cons (.var 3) .nil))) (.tup (.cons (.int 0) (.cons (.lst .nil) .nil)))) (.cons (.for_ (.tup
  (.cons (.var 4) (.cons (.var 5) .nil))) (.itr (.var 1)) (.cons (.asg (.var 3) (.bin .Add (.var 3) (.lst (.cons (.bin .Sub (.var 2) (.int 1)) (.cons (.var 2)
  (.cons (.bin .Add (.var 2) (.int 1)) (.cons (.bin .Add (.var 2) (.bin .FloorDiv (.var 5) (.int 2))) .nil))))))) (.cons (.asg (.var 2) (.bin .Add (.var 2)
  (.var 5))) .nil))) (.cons (.asg (.var 3) (.bin .Add (.var 3) (.lst (.cons (.bin .Sub (.var 2) (.int 2)) (.cons (.bin .Sub (.var 2) (.int 1)) (.cons (.var 2)
  (.cons (.bin .Add (.var 2) (.int 1)) .nil))))))) (.cons (.ret (.bin .Add (.var 3) (.lc (.rng1 (.int 3)) (.var 6) (.call 15 (.cons (.var 0) (.cons (.var 2)
  .nil))) (.bl true) [6]))) .nil))))
def bd_law : Sx := (.cons (.for_ (.var 1) (.rng1 (.bi .max (.cons (.int 1) (.cons (.bi .min (.cons (.int 6) (.cons (.bi .len (.cons (.var 0) .nil)) .nil)))
  .nil)))) (.cons (.asg (.var 2) (.call 14 (.cons (.var 0) (.cons (.var 1) .nil)))) (.cons (.for_ (.var 3) (.rng1 (.int 2)) (.cons (.asg (.var 4) (.ix (.lst
  (.cons (.int 3) (.cons (.int 20) .nil))) (.call 15 (.cons (.var 2) (.cons (.int 2) .nil))))) (.cons (.asg (.var 5) (.call 17 (.cons (.var 2) (.cons (.var 4)
  (.cons (.ix (.lst (.cons (.int 4) (.cons (.bin .Pow (.int 10) (.int 30)) .nil))) (.call 15 (.cons (.var 2) (.cons (.int 2) .nil)))) .nil))))) (.cons (.asg
  (.var 6) (.bi .repr (.cons (.var 5) .nil))) (.cons (.par [7, 8] (.cons (.call 18 (.cons (.ix (.var 5) (.int 0)) .nil)) (.cons (.call 18 (.cons (.ix (.var 5)
  (.int 1)) .nil)) .nil))) (.cons (.iff (.or (.cmp .NotEq (.call 10 (.cons (.var 5) .nil)) (.tup (.cons (.var 8) (.cons (.var 7) .nil)))) (.cmp .NotEq (.callk
  10 .nil (.cons (.var 5) .nil) [0]) (.tup (.cons (.var 8) (.cons (.var 7) .nil))))) (.cons (.ret (.bl false)) .nil) .nil) (.cons (.asg (.var 9) (.lst (.cons
  (.call 21 (.cons (.var 2) (.cons (.ix (.var 5) (.int 0)) .nil))) (.cons (.call 21 (.cons (.var 2) (.cons (.ix (.var 5) (.int 1)) .nil))) .nil)))) (.cons
  (.for_ (.tup (.cons (.var 10) (.cons (.var 11) .nil))) (.enum (.lst (.cons (.str "row") (.cons (.str "column") .nil)))) (.cons (.for_ (.var 12) (.itr (.ix
  (.var 9) (.var 10))) (.cons (.asg (.var 13) (.call 19 (.cons (.ix (.var 5) (.var 10)) (.cons (.var 12) .nil)))) (.cons (.iff (.cmp .NotEq (.call 20 (.cons
  (.var 5) (.cons (.var 11) (.cons (.var 12) (.cons (.cmp .Eq (.var 3) (.int 1)) .nil))))) (.var 13)) (.cons (.ret (.bl false)) .nil) .nil) .nil))) .nil))
  (.cons (.for_ (.var 14) (.itr (.sl (.ix (.var 9) (.int 0)) (.cons (.neg (.int 12)) .nil) .nil)) (.cons (.for_ (.var 15) (.itr (.sl (.ix (.var 9) (.int 1))
  (.cons (.neg (.int 12)) .nil) .nil)) (.cons (.asg (.var 13) (.and (.cmp2 .LtE .Lt (.int 0) (.var 15) (.var 8)) (.cmp2 .LtE .Lt (.int 0) (.var 14) (.var 7))))
  (.cons (.iff (.cmp .NotEq (.bi .repr (.cons (.call 13 (.cons (.var 5) (.cons (.tup (.cons (.var 15) (.cons (.var 14) .nil))) .nil))) .nil)) (.bi .repr (.cons
  (.var 13) .nil))) (.cons (.ret (.bl false)) .nil) .nil) (.cons (.iff (.cmp .NotEq (.bi .repr (.cons (.callk 13 .nil (.cons (.var 5) (.cons (.tup (.cons (.var
  15) (.cons (.var 14) .nil))) .nil)) [0, 1]) .nil)) (.bi .repr (.cons (.var 13) .nil))) (.cons (.ret (.bl false)) .nil) .nil) .nil)))) .nil)) (.cons (.iff
  (.cmp .NotEq (.bi .repr (.cons (.var 5) .nil)) (.var 6)) (.cons (.ret (.bl false)) .nil) .nil) .nil)))))))))) .nil))) (.cons (.asg (.var 5) (.tup (.cons
  (.tup (.cons (.tup (.cons (.str "W") (.cons (.int 2) .nil))) .nil)) (.cons (.tup (.cons (.tup (.cons (.str "S") (.cons (.int 5) .nil))) .nil)) .nil))))
  (.cons (.ret (.and (.cmp .Eq (.call 10 (.cons (.var 5) .nil)) (.tup (.cons (.int 5) (.cons (.int 2) .nil)))) (.cmp .Eq (.call 12 (.cons (.var 5) (.cons (.tup
  (.cons (.str "row") (.cons (.int 1) .nil))) .nil))) (.str "W")))) .nil)))
def fd_is_integer : Fd := ⟨2, 2, bd_is_integer⟩
def fd_is_run : Fd := ⟨2, 2, bd_is_run⟩
def fd_are_runs : Fd := ⟨2, 5, bd_are_runs⟩
def fd_is_city : Fd := ⟨1, 1, bd_is_city⟩
def fd_check_city : Fd := ⟨1, 1, bd_check_city⟩
def fd_count_streets : Fd := ⟨1, 3, bd_count_streets⟩
def fd_street_run : Fd := ⟨2, 5, bd_street_run⟩
def fd_is_street : Fd := ⟨2, 2, bd_is_street⟩
def fd_is_place : Fd := ⟨2, 3, bd_is_place⟩
def fd_check_street : Fd := ⟨2, 2, bd_check_street⟩
def fd_grid_size : Fd := ⟨1, 1, bd_grid_size⟩
def fd_direction_of : Fd := ⟨2, 2, bd_direction_of⟩
def fd_street_direction : Fd := ⟨2, 2, bd_street_direction⟩
def fd_is_point : Fd := ⟨2, 2, bd_is_point⟩
def fd__law_source : Fd := ⟨2, 3, bd__law_source⟩
def fd__law_draw : Fd := ⟨2, 4, bd__law_draw⟩
def fd__law_runs : Fd := ⟨4, 8, bd__law_runs⟩
def fd__law_town : Fd := ⟨3, 3, bd__law_town⟩
def fd__law_size : Fd := ⟨1, 4, bd__law_size⟩
def fd__law_sign : Fd := ⟨2, 5, bd__law_sign⟩
def fd__law_told : Fd := ⟨4, 5, bd__law_told⟩
def fd__law_numbers : Fd := ⟨2, 7, bd__law_numbers⟩
def fd_law : Fd := ⟨1, 16, bd_law⟩
def tbl : List Fd := [fd_is_integer, fd_is_run, fd_are_runs, fd_is_city, fd_check_city, fd_count_streets, fd_street_run, fd_is_street, fd_is_place, fd_check_street, fd_grid_size, fd_direction_of, fd_street_direction, fd_is_point, fd__law_source, fd__law_draw, fd__law_runs, fd__law_town, fd__law_size, fd__law_sign, fd__law_told, fd__law_numbers, fd_law]
def T : Nat → Option Fd := fun i => tbl[i]?
def nms : List Str := ["is_integer", "is_run", "are_runs", "is_city", "check_city", "count_streets", "street_run", "is_street", "is_place", "check_street", "grid_size", "direction_of", "street_direction", "is_point", "_law_source", "_law_draw", "_law_runs", "_law_town", "_law_size", "_law_sign", "_law_told", "_law_numbers", "law"]
def gns : List Str := ["EAST", "WEST", "NORTH", "SOUTH", "ROW", "COLUMN"]
def cns : List (Str × D) := [("EAST", .str "E"), ("WEST", .str "W"), ("NORTH", .str "N"), ("SOUTH", .str "S"), ("ROW", .str "row"), ("COLUMN", .str "column")]
def tbs : List (Str × List (Str × D)) := []
def gvs : List D := [.str "E", .str "W", .str "N", .str "S", .str "row", .str "column"]
def G : Nat → Option D := fun i => gvs[i]?
def W : Nat := 2 ^ 40
abbrev CF (k : Nat) : CallSem := callF W G T k
theorem sc_is_integer : FnScope nm_is_integer ["value", "low"] (defScope s_is_integer) := ⟨rfl, rfl, rfl, by decide +kernel, rfl, by decide +kernel, by decide +kernel⟩
theorem sc_is_run : FnScope nm_is_run ["value", "directions"] (defScope s_is_run) := ⟨rfl, rfl, rfl, by decide +kernel, rfl, by decide +kernel, by decide +kernel⟩
theorem sc_are_runs : FnScope nm_are_runs ["value", "directions"] (defScope s_are_runs) := ⟨rfl, rfl, rfl, by decide +kernel, rfl, by decide +kernel, by decide +kernel⟩
theorem sc_is_city : FnScope nm_is_city ["value"] (defScope s_is_city) := ⟨rfl, rfl, rfl, by decide +kernel, rfl, by decide +kernel, by decide +kernel⟩
theorem sc_check_city : FnScope nm_check_city ["city"] (defScope s_check_city) := ⟨rfl, rfl, rfl, by decide +kernel, rfl, by decide +kernel, by decide +kernel⟩
theorem sc_count_streets : FnScope nm_count_streets ["runs"] (defScope s_count_streets) := ⟨rfl, rfl, rfl, by decide +kernel, rfl, by decide +kernel, by decide +kernel⟩
theorem sc_street_run : FnScope nm_street_run ["runs", "number"] (defScope s_street_run) := ⟨rfl, rfl, rfl, by decide +kernel, rfl, by decide +kernel, by decide +kernel⟩
theorem sc_is_street : FnScope nm_is_street ["city", "value"] (defScope s_is_street) := ⟨rfl, rfl, rfl, by decide +kernel, rfl, by decide +kernel, by decide +kernel⟩
theorem sc_is_place : FnScope nm_is_place ["city", "value"] (defScope s_is_place) := ⟨rfl, rfl, rfl, by decide +kernel, rfl, by decide +kernel, by decide +kernel⟩
theorem sc_check_street : FnScope nm_check_street ["city", "street"] (defScope s_check_street) := ⟨rfl, rfl, rfl, by decide +kernel, rfl, by decide +kernel, by decide +kernel⟩
theorem sc_grid_size : FnScope nm_grid_size ["city"] (defScope s_grid_size) := ⟨rfl, rfl, rfl, by decide +kernel, rfl, by decide +kernel, by decide +kernel⟩
theorem sc_direction_of : FnScope nm_direction_of ["city", "street"] (defScope s_direction_of) := ⟨rfl, rfl, rfl, by decide +kernel, rfl, by decide +kernel, by decide +kernel⟩
theorem sc_street_direction : FnScope nm_street_direction ["city", "street"] (defScope s_street_direction) := ⟨rfl, rfl, rfl, by decide +kernel, rfl, by decide +kernel, by decide +kernel⟩
theorem sc_is_point : FnScope nm_is_point ["city", "value"] (defScope s_is_point) := ⟨rfl, rfl, rfl, by decide +kernel, rfl, by decide +kernel, by decide +kernel⟩
theorem sc__law_source : FnScope nm__law_source ["_law_script", "_law_k"] (defScope s__law_source) := ⟨rfl, rfl, rfl, by decide +kernel, rfl, by decide +kernel, by decide +kernel⟩
theorem sc__law_draw : FnScope nm__law_draw ["_law_source_here", "_law_bound"] (defScope s__law_draw) := ⟨rfl, rfl, rfl, by decide +kernel, rfl, by decide +kernel, by decide +kernel⟩
theorem sc__law_runs : FnScope nm__law_runs ["_law_source_here", "_law_pair", "_law_most", "_law_wide"] (defScope s__law_runs) := ⟨rfl, rfl, rfl, by decide +kernel, rfl, by decide +kernel, by decide +kernel⟩
theorem sc__law_town : FnScope nm__law_town ["_law_source_here", "_law_most", "_law_wide"] (defScope s__law_town) := ⟨rfl, rfl, rfl, by decide +kernel, rfl, by decide +kernel, by decide +kernel⟩
theorem sc__law_size : FnScope nm__law_size ["_law_runs_here"] (defScope s__law_size) := ⟨rfl, rfl, rfl, by decide +kernel, rfl, by decide +kernel, by decide +kernel⟩
theorem sc__law_sign : FnScope nm__law_sign ["_law_runs_here", "_law_number"] (defScope s__law_sign) := ⟨rfl, rfl, rfl, by decide +kernel, rfl, by decide +kernel, by decide +kernel⟩
theorem sc__law_told : FnScope nm__law_told ["_law_town_here", "_law_word", "_law_number", "_law_named"] (defScope s__law_told) := ⟨rfl, rfl, rfl, by decide +kernel, rfl, by decide +kernel, by decide +kernel⟩
theorem sc__law_numbers : FnScope nm__law_numbers ["_law_source_here", "_law_runs_here"] (defScope s__law_numbers) := ⟨rfl, rfl, rfl, by decide +kernel, rfl, by decide +kernel, by decide +kernel⟩
theorem sc_law : FnScope nm_law ["_law_script"] (defScope s_law) := ⟨rfl, rfl, rfl, by decide +kernel, rfl, by decide +kernel, by decide +kernel⟩
def kwl : List (List (Nat × List Str × List Nat)) := [[], [], [], [], [], [], [], [], [], [], [(0, ["city"], [0])], [], [(0, ["city", "street"], [0, 1])], [(0, ["city", "value"], [0, 1])], [], [], [], [], [], [], [], [], []]
def kwt : Nat → List (Nat × List Str × List Nat) := fun i => kwl.getD i []
structure Txt (K : PySem.W.Frag) (mg : Str → Option Value) (w : World) : Prop where
  nob : NoB mg
  gok : GOk K mg gns G
  t_is_integer : FnTxt K mg "is_integer" s_is_integer ["value", "low"] (kwt 0)
  t_is_run : FnTxt K mg "is_run" s_is_run ["value", "directions"] (kwt 1)
  t_are_runs : FnTxt K mg "are_runs" s_are_runs ["value", "directions"] (kwt 2)
  t_is_city : FnTxt K mg "is_city" s_is_city ["value"] (kwt 3)
  t_check_city : FnTxt K mg "check_city" s_check_city ["city"] (kwt 4)
  t_count_streets : FnTxt K mg "count_streets" s_count_streets ["runs"] (kwt 5)
  t_street_run : FnTxt K mg "street_run" s_street_run ["runs", "number"] (kwt 6)
  t_is_street : FnTxt K mg "is_street" s_is_street ["city", "value"] (kwt 7)
  t_is_place : FnTxt K mg "is_place" s_is_place ["city", "value"] (kwt 8)
  t_check_street : FnTxt K mg "check_street" s_check_street ["city", "street"] (kwt 9)
  t_grid_size : FnTxt K mg "grid_size" s_grid_size ["city"] (kwt 10)
  t_direction_of : FnTxt K mg "direction_of" s_direction_of ["city", "street"] (kwt 11)
  t_street_direction : FnTxt K mg "street_direction" s_street_direction ["city", "street"] (kwt 12)
  t_is_point : FnTxt K mg "is_point" s_is_point ["city", "value"] (kwt 13)
  t__law_source : FnTxt K mg "_law_source" s__law_source ["_law_script", "_law_k"] (kwt 14)
  t__law_draw : FnTxt K mg "_law_draw" s__law_draw ["_law_source_here", "_law_bound"] (kwt 15)
  t__law_runs : FnTxt K mg "_law_runs" s__law_runs ["_law_source_here", "_law_pair", "_law_most", "_law_wide"] (kwt 16)
  t__law_town : FnTxt K mg "_law_town" s__law_town ["_law_source_here", "_law_most", "_law_wide"] (kwt 17)
  t__law_size : FnTxt K mg "_law_size" s__law_size ["_law_runs_here"] (kwt 18)
  t__law_sign : FnTxt K mg "_law_sign" s__law_sign ["_law_runs_here", "_law_number"] (kwt 19)
  t__law_told : FnTxt K mg "_law_told" s__law_told ["_law_town_here", "_law_word", "_law_number", "_law_named"] (kwt 20)
  t__law_numbers : FnTxt K mg "_law_numbers" s__law_numbers ["_law_source_here", "_law_runs_here"] (kwt 21)
  t_law : FnTxt K mg "law" s_law ["_law_script"] (kwt 22)
  x_CityError : ExTxt K mg "CityError"
  x_InvalidCity : ExTxt K mg "InvalidCity"
  x_InvalidStreet : ExTxt K mg "InvalidStreet"
  m_CityError_InvalidStreet : ExmTxt K mg "CityError" "InvalidStreet" false
  m_InvalidCity_InvalidStreet : ExmTxt K mg "InvalidCity" "InvalidStreet" false
  m_InvalidStreet_InvalidStreet : ExmTxt K mg "InvalidStreet" "InvalidStreet" true
section
variable {P : Program} {w : World} {K : PySem.W.Frag} {mg : Str → Option Value} {base : Heap} {k : Nat} {C : CallSem}
theorem at_is_integer (tx : Txt K mg w) (cc : Calls P w K mg base k nms kwt T C) : FnAt P w K mg base (k + 1) "is_integer" 2 (kwt 0) (fun ds S => if ds.length = 2 then endR (run W C G bd_is_integer (startE 2 ds) S) else .bad) := by
  obtain ⟨f, fdd, hm, F, hb, hkb⟩ := tx.t_is_integer.ex
  refine def_ok (fd := fd_is_integer) (i := f_is_integer) (T := T) (C := C) (G := G) (n := W) tx.nob F sc_is_integer rfl rfl rfl hm hb hkb ?_
  intro cdv A outer s H E cx room tk ow
  have gok := tx.gok
  exact (dss_cons (ds_ret (de_and (de_biB cx m_isinstance bi_isinst (by rfl) b_isinstance (da_cons (de_var (pv 0)) (da_cons (de_ty cx m_int (by rfl) b_int)
  da_nil))) (de_and (de_nt (de_biB cx m_isinstance bi_isinst (by rfl) b_isinstance (da_cons (de_var (pv 0)) (da_cons (de_ty cx m_bool (by rfl) b_bool)
  da_nil)))) (pe_one (de_cmp cx (de_var (pv 0)) (de_var (pv 1)))))))
  dss_nil)
theorem at_is_run (tx : Txt K mg w) (cc : Calls P w K mg base k nms kwt T C) : FnAt P w K mg base (k + 1) "is_run" 2 (kwt 1) (fun ds S => if ds.length = 2 then endR (run W C G bd_is_run (startE 2 ds) S) else .bad) := by
  obtain ⟨f, fdd, hm, F, hb, hkb⟩ := tx.t_is_run.ex
  refine def_ok (fd := fd_is_run) (i := f_is_run) (T := T) (C := C) (G := G) (n := W) tx.nob F sc_is_run rfl rfl rfl hm hb hkb ?_
  intro cdv A outer s H E cx room tk ow
  have gok := tx.gok
  exact (dss_cons (ds_if (dw_or (dt_nt (dt_tru (de_biB cx m_isinstance bi_isinst (by rfl) b_isinstance (da_cons (de_var (pv 0)) (da_cons (de_ty cx m_tuple
  (by rfl) b_tuple) da_nil))))) (dw_one_or (dt_cmp cx (de_biB cx m_len bi_len (by rfl) b_len (da_cons (de_var (pv 0)) da_nil)) de_int))).pt (dss_cons (ds_ret
  de_bl)
  dss_nil) dss_nil)
  (dss_cons (ds_ret (de_and (de_biB cx m_isinstance bi_isinst (by rfl) b_isinstance (da_cons (de_ix cx (de_var (pv 0)) de_int)
  (da_cons (de_ty cx m_str (by rfl) b_str) da_nil))) (de_and (de_cmp cx (de_ix cx (de_var (pv 0)) de_int) (de_var (pv 1))) (pe_one (de_call cc (i := 0)
  (by rfl) (by rfl) cx room tk (by rfl) (da_cons (de_ix cx (de_var (pv 0)) de_int) (da_cons de_int da_nil)))))))
  dss_nil))
theorem at_are_runs (tx : Txt K mg w) (cc : Calls P w K mg base k nms kwt T C) : FnAt P w K mg base (k + 1) "are_runs" 2 (kwt 2) (fun ds S => if ds.length = 2 then endR (run W C G bd_are_runs (startE 5 ds) S) else .bad) := by
  obtain ⟨f, fdd, hm, F, hb, hkb⟩ := tx.t_are_runs.ex
  refine def_ok (fd := fd_are_runs) (i := f_are_runs) (T := T) (C := C) (G := G) (n := W) tx.nob F sc_are_runs rfl rfl rfl hm hb hkb ?_
  intro cdv A outer s H E cx room tk ow
  have gok := tx.gok
  exact (dss_cons (ds_if (dw_or (dt_nt (dt_tru (de_biB cx m_isinstance bi_isinst (by rfl) b_isinstance (da_cons (de_var (pv 0)) (da_cons (de_ty cx m_tuple
  (by rfl) b_tuple) da_nil))))) (dw_or (dt_cmp cx (de_biB cx m_len bi_len (by rfl) b_len (da_cons (de_var (pv 0)) da_nil)) de_int) (dw_one_or (dt_nt (dt_tru
  (de_biB cx m_all (bi_all cx.calm) (by rfl) b_all (da_cons (de_lc (own := [("run", 4)]) cx (di_itr (de_var (pv 0))) (blkOk_by (own := [("run", 4)]) (N :=
  nm_are_runs) (sc := defScope s_are_runs) (by decide +kernel)) (fun _ _ _ _ _ => (dg_name (pg_name (i := 4) (cx.blk _ _ _ _ _).nd rfl (.inl rfl)))) (fun _ _ _
  _ _ => dts_nil) (fun _ _ _ _ _ => (de_call cc (i := 1) (by rfl) (by rfl) (cx.blk _ _ _ _ _) room takes0 (by rfl) (da_cons (de_var (pv 4)) (da_cons (de_var
  (pv 1)) da_nil)))) (by decide)) da_nil))))))).pt (dss_cons (ds_ret de_bl)
  dss_nil) dss_nil)
  (dss_cons (ds_ret (de_biB cx m_all (bi_all cx.calm) (by rfl)
  b_all (da_cons (de_lc (own := [("one", 2), ("other", 3)]) cx (di_zip2 cx (by rfl) (de_var (pv 0)) (de_sl (de_var (pv 0)) (dp_some de_int) dp_none)) (blkOk_by
  (own := [("one", 2), ("other", 3)]) (N := nm_are_runs) (sc := defScope s_are_runs) (by decide +kernel)) (fun _ _ _ _ _ => (dg_tup (cx.blk _ _ _ _ _).calm
  (dgs_cons (dg_name (pg_name (i := 2) (cx.blk _ _ _ _ _).nd rfl (.inl rfl))) (dgs_cons (dg_name (pg_name (i := 3) (cx.blk _ _ _ _ _).nd rfl (.inl rfl)))
  dgs_nil)))) (fun _ _ _ _ _ => dts_nil) (fun _ _ _ _ _ => (de_cmp (cx.blk _ _ _ _ _) (de_ix (cx.blk _ _ _ _ _) (de_var (pv 2)) de_int) (de_ix (cx.blk _ _ _ _
  _) (de_var (pv 3)) de_int))) (by decide)) da_nil)))
  dss_nil))
theorem at_is_city (tx : Txt K mg w) (cc : Calls P w K mg base k nms kwt T C) : FnAt P w K mg base (k + 1) "is_city" 1 (kwt 3) (fun ds S => if ds.length = 1 then endR (run W C G bd_is_city (startE 1 ds) S) else .bad) := by
  obtain ⟨f, fdd, hm, F, hb, hkb⟩ := tx.t_is_city.ex
  refine def_ok (fd := fd_is_city) (i := f_is_city) (T := T) (C := C) (G := G) (n := W) tx.nob F sc_is_city rfl rfl rfl hm hb hkb ?_
  intro cdv A outer s H E cx room tk ow
  have gok := tx.gok
  exact (dss_cons (ds_if (dw_or (dt_nt (dt_tru (de_biB cx m_isinstance bi_isinst (by rfl) b_isinstance (da_cons (de_var (pv 0)) (da_cons (de_ty cx m_tuple
  (by rfl) b_tuple) da_nil))))) (dw_one_or (dt_cmp cx (de_biB cx m_len bi_len (by rfl) b_len (da_cons (de_var (pv 0)) da_nil)) de_int))).pt (dss_cons (ds_ret
  de_bl)
  dss_nil) dss_nil)
  (dss_cons (ds_ret (de_and (de_call cc (i := 2) (by rfl) (by rfl) cx room tk (by rfl) (da_cons (de_ix cx (de_var (pv 0)) de_int)
  (da_cons (de_tup (da_cons (de_glo gok (i := 0) rfl (by rfl)) (da_cons (de_glo gok (i := 1) rfl (by rfl)) da_nil))) da_nil))) (pe_one (de_call cc (i := 2)
  (by rfl) (by rfl) cx room tk (by rfl) (da_cons (de_ix cx (de_var (pv 0)) de_int) (da_cons (de_tup (da_cons (de_glo gok (i := 2) rfl (by rfl)) (da_cons
  (de_glo gok (i := 3) rfl (by rfl)) da_nil))) da_nil))))))
  dss_nil))
theorem at_check_city (tx : Txt K mg w) (cc : Calls P w K mg base k nms kwt T C) : FnAt P w K mg base (k + 1) "check_city" 1 (kwt 4) (fun ds S => if ds.length = 1 then endR (run W C G bd_check_city (startE 1 ds) S) else .bad) := by
  obtain ⟨f, fdd, hm, F, hb, hkb⟩ := tx.t_check_city.ex
  refine def_ok (fd := fd_check_city) (i := f_check_city) (T := T) (C := C) (G := G) (n := W) tx.nob F sc_check_city rfl rfl rfl hm hb hkb ?_
  intro cdv A outer s H E cx room tk ow
  have gok := tx.gok
  exact (dss_cons (ds_if (dt_nt (dt_tru (de_call cc (i := 3) (by rfl) (by rfl) cx room tk (by rfl) (da_cons (de_var (pv 0)) da_nil)))) (dss_cons (ds_raise0 (c
  := 1) (by rfl) tx.x_InvalidCity cx tk (by rfl))
  dss_nil) dss_nil)
  dss_nil)
theorem at_count_streets (tx : Txt K mg w) (cc : Calls P w K mg base k nms kwt T C) : FnAt P w K mg base (k + 1) "count_streets" 1 (kwt 5) (fun ds S => if ds.length = 1 then endR (run W C G bd_count_streets (startE 3 ds) S) else .bad) := by
  obtain ⟨f, fdd, hm, F, hb, hkb⟩ := tx.t_count_streets.ex
  refine def_ok (fd := fd_count_streets) (i := f_count_streets) (T := T) (C := C) (G := G) (n := W) tx.nob F sc_count_streets rfl rfl rfl hm hb hkb ?_
  intro cdv A outer s H E cx room tk ow
  have gok := tx.gok
  exact (dss_cons (ds_ret (de_biB cx m_sum (bi_sum cx.calm) (by rfl) b_sum (da_cons (de_lc (own := [("direction", 1), ("count", 2)]) cx (di_itr (de_var (pv
  0))) (blkOk_by (own := [("direction", 1), ("count", 2)]) (N := nm_count_streets) (sc := defScope s_count_streets) (by decide +kernel)) (fun _ _ _ _ _ =>
  (dg_tup (cx.blk _ _ _ _ _).calm (dgs_cons (dg_name (pg_name (i := 1) (cx.blk _ _ _ _ _).nd rfl (.inl rfl))) (dgs_cons (dg_name (pg_name (i := 2) (cx.blk _ _
  _ _ _).nd rfl (.inl rfl))) dgs_nil)))) (fun _ _ _ _ _ => dts_nil) (fun _ _ _ _ _ => (de_var (pv 2))) (by decide)) da_nil)))
  dss_nil)
theorem at_street_run (tx : Txt K mg w) (cc : Calls P w K mg base k nms kwt T C) : FnAt P w K mg base (k + 1) "street_run" 2 (kwt 6) (fun ds S => if ds.length = 2 then endR (run W C G bd_street_run (startE 5 ds) S) else .bad) := by
  obtain ⟨f, fdd, hm, F, hb, hkb⟩ := tx.t_street_run.ex
  refine def_ok (fd := fd_street_run) (i := f_street_run) (T := T) (C := C) (G := G) (n := W) tx.nob F sc_street_run rfl rfl rfl hm hb hkb ?_
  intro cdv A outer s H E cx room tk ow
  have gok := tx.gok
  exact (dss_cons (ds_asg de_int (dgu_bind (dg_name (pg_name (i := 2) cx.nd rfl (.inl rfl)))))
  (dss_cons (ds_for ow cx.calm (di_itr (de_var (pv 0))) (dg_tup
  cx.calm (dgs_cons (dg_name (pg_name (i := 3) cx.nd rfl (.inl rfl))) (dgs_cons (dg_name (pg_name (i := 4) cx.nd rfl (.inl rfl))) dgs_nil))) (dss_cons (ds_if
  (dt_cmp cx (de_var (pv 1)) (de_bin (de_var (pv 2)) (de_var (pv 4)))) (dss_cons (ds_ret (de_tup (da_cons (de_var (pv 3)) (da_cons (de_var (pv 2)) (da_cons
  (de_bin (de_bin (de_var (pv 2)) (de_var (pv 4))) de_int) da_nil)))))
  dss_nil) dss_nil)
  (dss_cons (ds_aug (i := 2) cx.nd rfl (.inl rfl) (de_var (pv 4)))
  dss_nil)))
  (dss_cons (ds_ret de_non)
  dss_nil)))
theorem at_is_street (tx : Txt K mg w) (cc : Calls P w K mg base k nms kwt T C) : FnAt P w K mg base (k + 1) "is_street" 2 (kwt 7) (fun ds S => if ds.length = 2 then endR (run W C G bd_is_street (startE 2 ds) S) else .bad) := by
  obtain ⟨f, fdd, hm, F, hb, hkb⟩ := tx.t_is_street.ex
  refine def_ok (fd := fd_is_street) (i := f_is_street) (T := T) (C := C) (G := G) (n := W) tx.nob F sc_is_street rfl rfl rfl hm hb hkb ?_
  intro cdv A outer s H E cx room tk ow
  have gok := tx.gok
  exact (dss_cons (ds_if (dw_or (dt_nt (dt_tru (de_biB cx m_isinstance bi_isinst (by rfl) b_isinstance (da_cons (de_var (pv 1)) (da_cons (de_ty cx m_tuple
  (by rfl) b_tuple) da_nil))))) (dw_or (dt_cmp cx (de_biB cx m_len bi_len (by rfl) b_len (da_cons (de_var (pv 1)) da_nil)) de_int) (dw_one_or (dt_nt (dt_tru
  (de_biB cx m_isinstance bi_isinst (by rfl) b_isinstance (da_cons (de_ix cx (de_var (pv 1)) de_int) (da_cons (de_ty cx m_str (by rfl) b_str) da_nil)))))))).pt
  (dss_cons (ds_ret de_bl)
  dss_nil) dss_nil)
  (dss_cons (ds_if (dw_or (dt_cmp cx (de_ix cx (de_var (pv 1)) de_int) (de_tup (da_cons (de_glo gok (i := 4) rfl
  (by rfl)) (da_cons (de_glo gok (i := 5) rfl (by rfl)) da_nil)))) (dw_one_or (dt_nt (dt_tru (de_call cc (i := 0) (by rfl) (by rfl) cx room tk (by rfl)
  (da_cons (de_ix cx (de_var (pv 1)) de_int) (da_cons de_int da_nil))))))).pt (dss_cons (ds_ret de_bl)
  dss_nil) dss_nil)
  (dss_cons (ds_ret (de_cmp cx
  (de_ix cx (de_var (pv 1)) de_int) (de_call cc (i := 5) (by rfl) (by rfl) cx room tk (by rfl) (da_cons (de_ix cx (de_var (pv 0)) (de_biT cx m_int bi_int
  (by rfl) b_int (da_cons (de_cmp cx (de_ix cx (de_var (pv 1)) de_int) (de_glo gok (i := 5) rfl (by rfl))) da_nil))) da_nil))))
  dss_nil)))
theorem at_is_place (tx : Txt K mg w) (cc : Calls P w K mg base k nms kwt T C) : FnAt P w K mg base (k + 1) "is_place" 2 (kwt 8) (fun ds S => if ds.length = 2 then endR (run W C G bd_is_place (startE 3 ds) S) else .bad) := by
  obtain ⟨f, fdd, hm, F, hb, hkb⟩ := tx.t_is_place.ex
  refine def_ok (fd := fd_is_place) (i := f_is_place) (T := T) (C := C) (G := G) (n := W) tx.nob F sc_is_place rfl rfl rfl hm hb hkb ?_
  intro cdv A outer s H E cx room tk ow
  have gok := tx.gok
  exact (dss_cons (ds_if (dw_or (dt_nt (dt_tru (de_biB cx m_isinstance bi_isinst (by rfl) b_isinstance (da_cons (de_var (pv 1)) (da_cons (de_ty cx m_tuple
  (by rfl) b_tuple) da_nil))))) (dw_or (dt_cmp cx (de_biB cx m_len bi_len (by rfl) b_len (da_cons (de_var (pv 1)) da_nil)) de_int) (dw_one_or (dt_nt (dt_tru
  (de_biB cx m_all (bi_all cx.calm) (by rfl) b_all (da_cons (de_lc (own := [("number", 2)]) cx (di_itr (de_var (pv 1))) (blkOk_by (own := [("number", 2)]) (N
  := nm_is_place) (sc := defScope s_is_place) (by decide +kernel)) (fun _ _ _ _ _ => (dg_name (pg_name (i := 2) (cx.blk _ _ _ _ _).nd rfl (.inl rfl)))) (fun _
  _ _ _ _ => dts_nil) (fun _ _ _ _ _ => (de_call cc (i := 0) (by rfl) (by rfl) (cx.blk _ _ _ _ _) room takes0 (by rfl) (da_cons (de_var (pv 2)) (da_cons de_int
  da_nil)))) (by decide)) da_nil))))))).pt (dss_cons (ds_ret de_bl)
  dss_nil) dss_nil)
  (dss_cons (ds_ret (de_and (de_cmp cx (de_ix cx (de_var (pv 1))
  de_int) (de_call cc (i := 5) (by rfl) (by rfl) cx room tk (by rfl) (da_cons (de_ix cx (de_var (pv 0)) de_int) da_nil))) (pe_one (de_cmp cx (de_ix cx (de_var
  (pv 1)) de_int) (de_call cc (i := 5) (by rfl) (by rfl) cx room tk (by rfl) (da_cons (de_ix cx (de_var (pv 0)) de_int) da_nil))))))
  dss_nil))
theorem at_check_street (tx : Txt K mg w) (cc : Calls P w K mg base k nms kwt T C) : FnAt P w K mg base (k + 1) "check_street" 2 (kwt 9) (fun ds S => if ds.length = 2 then endR (run W C G bd_check_street (startE 2 ds) S) else .bad) := by
  obtain ⟨f, fdd, hm, F, hb, hkb⟩ := tx.t_check_street.ex
  refine def_ok (fd := fd_check_street) (i := f_check_street) (T := T) (C := C) (G := G) (n := W) tx.nob F sc_check_street rfl rfl rfl hm hb hkb ?_
  intro cdv A outer s H E cx room tk ow
  have gok := tx.gok
  exact (dss_cons (ds_if (dt_nt (dt_tru (de_call cc (i := 7) (by rfl) (by rfl) cx room tk (by rfl) (da_cons (de_var (pv 0)) (da_cons (de_var (pv 1))
  da_nil))))) (dss_cons (ds_raise0 (c := 2) (by rfl) tx.x_InvalidStreet cx tk (by rfl))
  dss_nil) dss_nil)
  dss_nil)
theorem at_grid_size (tx : Txt K mg w) (cc : Calls P w K mg base k nms kwt T C) : FnAt P w K mg base (k + 1) "grid_size" 1 (kwt 10) (fun ds S => if ds.length = 1 then endR (run W C G bd_grid_size (startE 1 ds) S) else .bad) := by
  obtain ⟨f, fdd, hm, F, hb, hkb⟩ := tx.t_grid_size.ex
  refine def_ok (fd := fd_grid_size) (i := f_grid_size) (T := T) (C := C) (G := G) (n := W) tx.nob F sc_grid_size rfl rfl rfl hm hb hkb ?_
  intro cdv A outer s H E cx room tk ow
  have gok := tx.gok
  exact (dss_cons (ds_expr (de_call cc (i := 4) (by rfl) (by rfl) cx room tk (by rfl) (da_cons (de_var (pv 0)) da_nil)))
  (dss_cons (ds_ret (de_tup (da_cons
  (de_call cc (i := 5) (by rfl) (by rfl) cx room tk (by rfl) (da_cons (de_ix cx (de_var (pv 0)) de_int) da_nil)) (da_cons (de_call cc (i := 5) (by rfl)
  (by rfl) cx room tk (by rfl) (da_cons (de_ix cx (de_var (pv 0)) de_int) da_nil)) da_nil))))
  dss_nil))
theorem at_direction_of (tx : Txt K mg w) (cc : Calls P w K mg base k nms kwt T C) : FnAt P w K mg base (k + 1) "direction_of" 2 (kwt 11) (fun ds S => if ds.length = 2 then endR (run W C G bd_direction_of (startE 2 ds) S) else .bad) := by
  obtain ⟨f, fdd, hm, F, hb, hkb⟩ := tx.t_direction_of.ex
  refine def_ok (fd := fd_direction_of) (i := f_direction_of) (T := T) (C := C) (G := G) (n := W) tx.nob F sc_direction_of rfl rfl rfl hm hb hkb ?_
  intro cdv A outer s H E cx room tk ow
  have gok := tx.gok
  exact (dss_cons (ds_ret (de_ix cx (de_call cc (i := 6) (by rfl) (by rfl) cx room tk (by rfl) (da_cons (de_ix cx (de_var (pv 0)) (de_biT cx m_int bi_int
  (by rfl) b_int (da_cons (de_cmp cx (de_ix cx (de_var (pv 1)) de_int) (de_glo gok (i := 5) rfl (by rfl))) da_nil))) (da_cons (de_ix cx (de_var (pv 1)) de_int)
  da_nil))) de_int))
  dss_nil)
theorem at_street_direction (tx : Txt K mg w) (cc : Calls P w K mg base k nms kwt T C) : FnAt P w K mg base (k + 1) "street_direction" 2 (kwt 12) (fun ds S => if ds.length = 2 then endR (run W C G bd_street_direction (startE 2 ds) S) else .bad) := by
  obtain ⟨f, fdd, hm, F, hb, hkb⟩ := tx.t_street_direction.ex
  refine def_ok (fd := fd_street_direction) (i := f_street_direction) (T := T) (C := C) (G := G) (n := W) tx.nob F sc_street_direction rfl rfl rfl hm hb hkb ?_
  intro cdv A outer s H E cx room tk ow
  have gok := tx.gok
  exact (dss_cons (ds_expr (de_call cc (i := 4) (by rfl) (by rfl) cx room tk (by rfl) (da_cons (de_var (pv 0)) da_nil)))
  (dss_cons (ds_expr (de_call cc (i :=
  9) (by rfl) (by rfl) cx room tk (by rfl) (da_cons (de_var (pv 0)) (da_cons (de_var (pv 1)) da_nil))))
  (dss_cons (ds_ret (de_call cc (i := 11) (by rfl)
  (by rfl) cx room tk (by rfl) (da_cons (de_var (pv 0)) (da_cons (de_var (pv 1)) da_nil))))
  dss_nil)))
theorem at_is_point (tx : Txt K mg w) (cc : Calls P w K mg base k nms kwt T C) : FnAt P w K mg base (k + 1) "is_point" 2 (kwt 13) (fun ds S => if ds.length = 2 then endR (run W C G bd_is_point (startE 2 ds) S) else .bad) := by
  obtain ⟨f, fdd, hm, F, hb, hkb⟩ := tx.t_is_point.ex
  refine def_ok (fd := fd_is_point) (i := f_is_point) (T := T) (C := C) (G := G) (n := W) tx.nob F sc_is_point rfl rfl rfl hm hb hkb ?_
  intro cdv A outer s H E cx room tk ow
  have gok := tx.gok
  exact (dss_cons (ds_expr (de_call cc (i := 4) (by rfl) (by rfl) cx room tk (by rfl) (da_cons (de_var (pv 0)) da_nil)))
  (dss_cons (ds_ret (de_call cc (i :=
  8) (by rfl) (by rfl) cx room tk (by rfl) (da_cons (de_var (pv 0)) (da_cons (de_var (pv 1)) da_nil))))
  dss_nil))
theorem at__law_source (tx : Txt K mg w) (cc : Calls P w K mg base k nms kwt T C) : FnAt P w K mg base (k + 1) "_law_source" 2 (kwt 14) (fun ds S => if ds.length = 2 then endR (run W C G bd__law_source (startE 3 ds) S) else .bad) := by
  obtain ⟨f, fdd, hm, F, hb, hkb⟩ := tx.t__law_source.ex
  refine def_ok (fd := fd__law_source) (i := f__law_source) (T := T) (C := C) (G := G) (n := W) tx.nob F sc__law_source rfl rfl rfl hm hb hkb ?_
  intro cdv A outer s H E cx room tk ow
  have gok := tx.gok
  exact (dss_cons (ds_asg (de_ife (dt_cmp cx (de_var (pv 1)) (de_biB cx m_len bi_len (by rfl) b_len (da_cons (de_var (pv 0)) da_nil))) (de_ix cx (de_var (pv
  0)) (de_var (pv 1))) de_int) (dgu_bind (dg_name (pg_name (i := 2) cx.nd rfl (.inl rfl)))))
  (dss_cons (ds_ret (de_lst (da_cons (de_biB cx m_max (bi_max
  cx.calm) (by rfl) b_max (da_cons de_int (da_cons (de_bin (de_biB cx m_abs bi_abs (by rfl) b_abs (da_cons (de_var (pv 2)) da_nil)) (de_bin de_int de_int))
  da_nil))) (da_cons (de_bin (de_bin (de_var (pv 2)) (de_bin (de_bin de_int de_int) de_int)) (de_bin de_int (de_var (pv 1)))) (da_cons de_int da_nil)))))
  dss_nil))
theorem at__law_draw (tx : Txt K mg w) (cc : Calls P w K mg base k nms kwt T C) : FnAt P w K mg base (k + 1) "_law_draw" 2 (kwt 15) (fun ds S => if ds.length = 2 then endR (run W C G bd__law_draw (startE 4 ds) S) else .bad) := by
  obtain ⟨f, fdd, hm, F, hb, hkb⟩ := tx.t__law_draw.ex
  refine def_ok (fd := fd__law_draw) (i := f__law_draw) (T := T) (C := C) (G := G) (n := W) tx.nob F sc__law_draw rfl rfl rfl hm hb hkb ?_
  intro cdv A outer s H E cx room tk ow
  have gok := tx.gok
  exact (dss_cons (ds_if (dt_cmp cx (de_ix cx (de_var (pv 0)) de_int) de_int) (dss_cons (ds_asg (de_bin (de_ix cx (de_var (pv 0)) de_int) (de_var (pv 1)))
  (dgu_bind (dg_name (pg_name (i := 2) cx.nd rfl (.inl rfl)))))
  (dss_cons (ds_asg (de_bin (de_ix cx (de_var (pv 0)) de_int) (de_var (pv 1))) (dgu_ix cx
  (de_var (pv 0)) de_int))
  (dss_cons (ds_ret (de_var (pv 2)))
  dss_nil))) dss_nil)
  (dss_cons (ds_asg (de_bin (de_ix cx (de_var (pv 0)) de_int) de_int)
  (dgu_ix cx (de_var (pv 0)) de_int))
  (dss_cons (ds_asg (de_bin (de_bin (de_bin (de_ix cx (de_var (pv 0)) de_int) (de_bin de_int (de_ix cx (de_var (pv 0))
  de_int))) de_int) (de_bin (de_bin de_int de_int) de_int)) (dgu_bind (dg_name (pg_name (i := 3) cx.nd rfl (.inl rfl)))))
  (dss_cons (ds_asg (de_bin (de_bin
  (de_bin (de_var (pv 3)) (de_bin de_int (de_ix cx (de_var (pv 0)) de_int))) de_int) (de_bin (de_bin de_int de_int) de_int)) (dgu_bind (dg_name (pg_name (i :=
  3) cx.nd rfl (.inl rfl)))))
  (dss_cons (ds_ret (de_bin (de_bin (de_var (pv 3)) de_int) (de_var (pv 1))))
  dss_nil)))))
theorem at__law_runs (tx : Txt K mg w) (cc : Calls P w K mg base k nms kwt T C) : FnAt P w K mg base (k + 1) "_law_runs" 4 (kwt 16) (fun ds S => if ds.length = 4 then endR (run W C G bd__law_runs (startE 8 ds) S) else .bad) := by
  obtain ⟨f, fdd, hm, F, hb, hkb⟩ := tx.t__law_runs.ex
  refine def_ok (fd := fd__law_runs) (i := f__law_runs) (T := T) (C := C) (G := G) (n := W) tx.nob F sc__law_runs rfl rfl rfl hm hb hkb ?_
  intro cdv A outer s H E cx room tk ow
  have gok := tx.gok
  exact (dss_cons (ds_par2 (i := 4) (j := 5) cx.calm cx.nd rfl rfl (by decide) rfl rfl (da_cons (de_call cc (i := 15) (by rfl) (by rfl) cx room tk (by rfl)
  (da_cons (de_var (pv 0)) (da_cons de_int da_nil))) (da_cons (de_lst da_nil) da_nil)) (by rfl))
  (dss_cons (ds_for ow cx.calm (di_rng1 cx (by rfl) (de_bin
  de_int (de_call cc (i := 15) (by rfl) (by rfl) cx room tk (by rfl) (da_cons (de_var (pv 0)) (da_cons (de_var (pv 2)) da_nil))))) (dg_name (pg_name (i := 6)
  cx.nd rfl (.inl rfl))) (dss_cons (ds_asg (de_ix cx (de_lst (da_cons de_int (da_cons (de_bin de_int (de_call cc (i := 15) (by rfl) (by rfl) cx room tk
  (by rfl) (da_cons (de_var (pv 0)) (da_cons de_int da_nil)))) (da_cons (de_bin de_int (de_call cc (i := 15) (by rfl) (by rfl) cx room tk (by rfl) (da_cons
  (de_var (pv 0)) (da_cons (de_var (pv 3)) da_nil)))) da_nil)))) (de_call cc (i := 15) (by rfl) (by rfl) cx room tk (by rfl) (da_cons (de_var (pv 0)) (da_cons
  de_int da_nil)))) (dgu_bind (dg_name (pg_name (i := 7) cx.nd rfl (.inl rfl)))))
  (dss_cons (ds_expr (de_mt mi_append (de_var (pv 5)) (da_cons (de_tup
  (da_cons (de_ix cx (de_var (pv 1)) (de_bin (de_bin (de_var (pv 4)) (de_var (pv 6))) de_int)) (da_cons (de_var (pv 7)) da_nil))) da_nil)))
  dss_nil)))
  (dss_cons (ds_ret (de_biT cx m_tuple bi_tuple (by rfl) b_tuple (da_cons (de_var (pv 5)) da_nil)))
  dss_nil)))
theorem at__law_town (tx : Txt K mg w) (cc : Calls P w K mg base k nms kwt T C) : FnAt P w K mg base (k + 1) "_law_town" 3 (kwt 17) (fun ds S => if ds.length = 3 then endR (run W C G bd__law_town (startE 3 ds) S) else .bad) := by
  obtain ⟨f, fdd, hm, F, hb, hkb⟩ := tx.t__law_town.ex
  refine def_ok (fd := fd__law_town) (i := f__law_town) (T := T) (C := C) (G := G) (n := W) tx.nob F sc__law_town rfl rfl rfl hm hb hkb ?_
  intro cdv A outer s H E cx room tk ow
  have gok := tx.gok
  exact (dss_cons (ds_ret (de_tup (da_cons (de_call cc (i := 16) (by rfl) (by rfl) cx room tk (by rfl) (da_cons (de_var (pv 0)) (da_cons de_str (da_cons
  (de_var (pv 1)) (da_cons (de_var (pv 2)) da_nil))))) (da_cons (de_call cc (i := 16) (by rfl) (by rfl) cx room tk (by rfl) (da_cons (de_var (pv 0)) (da_cons
  de_str (da_cons (de_var (pv 1)) (da_cons (de_var (pv 2)) da_nil))))) da_nil))))
  dss_nil)
theorem at__law_size (tx : Txt K mg w) (cc : Calls P w K mg base k nms kwt T C) : FnAt P w K mg base (k + 1) "_law_size" 1 (kwt 18) (fun ds S => if ds.length = 1 then endR (run W C G bd__law_size (startE 4 ds) S) else .bad) := by
  obtain ⟨f, fdd, hm, F, hb, hkb⟩ := tx.t__law_size.ex
  refine def_ok (fd := fd__law_size) (i := f__law_size) (T := T) (C := C) (G := G) (n := W) tx.nob F sc__law_size rfl rfl rfl hm hb hkb ?_
  intro cdv A outer s H E cx room tk ow
  have gok := tx.gok
  exact (dss_cons (ds_asg de_int (dgu_bind (dg_name (pg_name (i := 1) cx.nd rfl (.inl rfl)))))
  (dss_cons (ds_for ow cx.calm (di_itr (de_var (pv 0))) (dg_tup
  cx.calm (dgs_cons (dg_name (pg_name (i := 2) cx.nd rfl (.inl rfl))) (dgs_cons (dg_name (pg_name (i := 3) cx.nd rfl (.inl rfl))) dgs_nil))) (dss_cons (ds_asg
  (de_bin (de_var (pv 1)) (de_var (pv 3))) (dgu_bind (dg_name (pg_name (i := 1) cx.nd rfl (.inl rfl)))))
  dss_nil))
  (dss_cons (ds_ret (de_var (pv 1)))
  dss_nil)))
theorem at__law_sign (tx : Txt K mg w) (cc : Calls P w K mg base k nms kwt T C) : FnAt P w K mg base (k + 1) "_law_sign" 2 (kwt 19) (fun ds S => if ds.length = 2 then endR (run W C G bd__law_sign (startE 5 ds) S) else .bad) := by
  obtain ⟨f, fdd, hm, F, hb, hkb⟩ := tx.t__law_sign.ex
  refine def_ok (fd := fd__law_sign) (i := f__law_sign) (T := T) (C := C) (G := G) (n := W) tx.nob F sc__law_sign rfl rfl rfl hm hb hkb ?_
  intro cdv A outer s H E cx room tk ow
  have gok := tx.gok
  exact (dss_cons (ds_if (dt_cmp cx (de_var (pv 1)) de_int) (dss_cons (ds_ret de_str)
  dss_nil) dss_nil)
  (dss_cons (ds_asg (de_var (pv 1)) (dgu_bind
  (dg_name (pg_name (i := 2) cx.nd rfl (.inl rfl)))))
  (dss_cons (ds_for ow cx.calm (di_itr (de_var (pv 0))) (dg_tup cx.calm (dgs_cons (dg_name (pg_name (i :=
  3) cx.nd rfl (.inl rfl))) (dgs_cons (dg_name (pg_name (i := 4) cx.nd rfl (.inl rfl))) dgs_nil))) (dss_cons (ds_if (dt_cmp cx (de_var (pv 2)) (de_var (pv 4)))
  (dss_cons (ds_ret (de_var (pv 3)))
  dss_nil) dss_nil)
  (dss_cons (ds_asg (de_bin (de_var (pv 2)) (de_var (pv 4))) (dgu_bind (dg_name (pg_name (i := 2)
  cx.nd rfl (.inl rfl)))))
  dss_nil)))
  (dss_cons (ds_ret de_str)
  dss_nil))))
theorem at__law_told (tx : Txt K mg w) (cc : Calls P w K mg base k nms kwt T C) : FnAt P w K mg base (k + 1) "_law_told" 4 (kwt 20) (fun ds S => if ds.length = 4 then endR (run W C G bd__law_told (startE 5 ds) S) else .bad) := by
  obtain ⟨f, fdd, hm, F, hb, hkb⟩ := tx.t__law_told.ex
  refine def_ok (fd := fd__law_told) (i := f__law_told) (T := T) (C := C) (G := G) (n := W) tx.nob F sc__law_told rfl rfl rfl hm hb hkb ?_
  intro cdv A outer s H E cx room tk ow
  have gok := tx.gok
  exact (dss_cons (ds_asg de_str (dgu_bind (dg_name (pg_name (i := 4) cx.nd rfl (.inl rfl)))))
  (dss_cons (ds_try rfl rfl (csx_cons (c := 0) (by rfl)
  tx.m_CityError_InvalidStreet (csx_cons (c := 1) (by rfl) tx.m_InvalidCity_InvalidStreet (csx_cons (c := 2) (by rfl) tx.m_InvalidStreet_InvalidStreet (csx_nil
  tx.x_InvalidStreet.ex.choose_spec.1)))) tk (by rfl) (fun W1 pn1 xe1 tk ow => have cx := cx.tr pn1 xe1; (dss_cons (ds_if (dt_tru (de_var (pv 3))) (dss_cons
  (ds_asg (de_callk0 (q := (0, ["city", "street"], [0, 1])) cc (i := 12) (j := 0) (by rfl) (by rfl) (by rfl) cx room tk (by rfl) (dk_cons (de_var (pv 0))
  (dk_cons (de_tup (da_cons (de_var (pv 1)) (da_cons (de_var (pv 2)) da_nil))) dk_nil))) (dgu_bind (dg_name (pg_name (i := 4) cx.nd rfl (.inl rfl)))))
  dss_nil) (dss_cons (ds_asg (de_call cc (i := 12) (by rfl) (by rfl) cx room tk (by rfl) (da_cons (de_var (pv 0)) (da_cons (de_tup (da_cons (de_var (pv 1))
  (da_cons (de_var (pv 2)) da_nil))) da_nil))) (dgu_bind (dg_name (pg_name (i := 4) cx.nd rfl (.inl rfl)))))
  dss_nil))
  dss_nil)) (fun a1 oe1 pn1 =>
  (dss_cons (ds_asg de_str (dgu_bind (dg_name (pg_name (i := 4) cx.nd rfl (.inl rfl)))))
  dss_nil)))
  (dss_cons (ds_ret (de_var (pv 4)))
  dss_nil)))
theorem at__law_numbers (tx : Txt K mg w) (cc : Calls P w K mg base k nms kwt T C) : FnAt P w K mg base (k + 1) "_law_numbers" 2 (kwt 21) (fun ds S => if ds.length = 2 then endR (run W C G bd__law_numbers (startE 7 ds) S) else .bad) := by
  obtain ⟨f, fdd, hm, F, hb, hkb⟩ := tx.t__law_numbers.ex
  refine def_ok (fd := fd__law_numbers) (i := f__law_numbers) (T := T) (C := C) (G := G) (n := W) tx.nob F sc__law_numbers rfl rfl rfl hm hb hkb ?_
  intro cdv A outer s H E cx room tk ow
  have gok := tx.gok
  exact (dss_cons (ds_asg (de_tup (da_cons de_int (da_cons (de_lst da_nil) da_nil))) (dgu_bind (dg_tup cx.calm (dgs_cons (dg_name (pg_name (i := 2) cx.nd rfl
  (.inr rfl))) (dgs_cons (dg_name (pg_name (i := 3) cx.nd rfl (.inl rfl))) dgs_nil)))))
  (dss_cons (ds_for ow cx.calm (di_itr (de_var (pv 1))) (dg_tup cx.calm
  (dgs_cons (dg_name (pg_name (i := 4) cx.nd rfl (.inl rfl))) (dgs_cons (dg_name (pg_name (i := 5) cx.nd rfl (.inl rfl))) dgs_nil))) (dss_cons (ds_asg (de_bin
  (de_var (pv 3)) (de_lst (da_cons (de_bin (de_var (pv 2)) de_int) (da_cons (de_var (pv 2)) (da_cons (de_bin (de_var (pv 2)) de_int) (da_cons (de_bin (de_var
  (pv 2)) (de_bin (de_var (pv 5)) de_int)) da_nil)))))) (dgu_bind (dg_name (pg_name (i := 3) cx.nd rfl (.inl rfl)))))
  (dss_cons (ds_asg (de_bin (de_var (pv
  2)) (de_var (pv 5))) (dgu_bind (dg_name (pg_name (i := 2) cx.nd rfl (.inr rfl)))))
  dss_nil)))
  (dss_cons (ds_asg (de_bin (de_var (pv 3)) (de_lst (da_cons
  (de_bin (de_var (pv 2)) de_int) (da_cons (de_bin (de_var (pv 2)) de_int) (da_cons (de_var (pv 2)) (da_cons (de_bin (de_var (pv 2)) de_int) da_nil))))))
  (dgu_bind (dg_name (pg_name (i := 3) cx.nd rfl (.inl rfl)))))
  (dss_cons (ds_ret (de_bin (de_var (pv 3)) (de_lc (own := [("_law_step", 6)]) cx (di_rng1 cx
  (by rfl) de_int) (blkOk_by (own := [("_law_step", 6)]) (N := nm__law_numbers) (sc := defScope s__law_numbers) (by decide +kernel)) (fun _ _ _ _ _ => (dg_name
  (pg_name (i := 6) (cx.blk _ _ _ _ _).nd rfl (.inl rfl)))) (fun _ _ _ _ _ => dts_nil) (fun _ _ _ _ _ => (de_call cc (i := 15) (by rfl) (by rfl) (cx.blk _ _ _
  _ _) room takes0 (by rfl) (da_cons (de_var (pv 0)) (da_cons (de_var (pv 2)) da_nil)))) (by decide))))
  dss_nil))))
theorem at_law (tx : Txt K mg w) (cc : Calls P w K mg base k nms kwt T C) : FnAt P w K mg base (k + 1) "law" 1 (kwt 22) (fun ds S => if ds.length = 1 then endR (run W C G bd_law (startE 16 ds) S) else .bad) := by
  obtain ⟨f, fdd, hm, F, hb, hkb⟩ := tx.t_law.ex
  refine def_ok (fd := fd_law) (i := f_law) (T := T) (C := C) (G := G) (n := W) tx.nob F sc_law rfl rfl rfl hm hb hkb ?_
  intro cdv A outer s H E cx room tk ow
  have gok := tx.gok
  exact (dss_cons (ds_for ow cx.calm (di_rng1 cx (by rfl) (de_biB cx m_max (bi_max cx.calm) (by rfl) b_max (da_cons de_int (da_cons (de_biB cx m_min (bi_min
  cx.calm) (by rfl) b_min (da_cons de_int (da_cons (de_biB cx m_len bi_len (by rfl) b_len (da_cons (de_var (pv 0)) da_nil)) da_nil))) da_nil)))) (dg_name
  (pg_name (i := 1) cx.nd rfl (.inl rfl))) (dss_cons (ds_asg (de_call cc (i := 14) (by rfl) (by rfl) cx room tk (by rfl) (da_cons (de_var (pv 0)) (da_cons
  (de_var (pv 1)) da_nil))) (dgu_bind (dg_name (pg_name (i := 2) cx.nd rfl (.inl rfl)))))
  (dss_cons (ds_for ow cx.calm (di_rng1 cx (by rfl) de_int) (dg_name
  (pg_name (i := 3) cx.nd rfl (.inl rfl))) (dss_cons (ds_asg (de_ix cx (de_lst (da_cons de_int (da_cons de_int da_nil))) (de_call cc (i := 15) (by rfl)
  (by rfl) cx room tk (by rfl) (da_cons (de_var (pv 2)) (da_cons de_int da_nil)))) (dgu_bind (dg_name (pg_name (i := 4) cx.nd rfl (.inl rfl)))))
  (dss_cons
  (ds_asg (de_call cc (i := 17) (by rfl) (by rfl) cx room tk (by rfl) (da_cons (de_var (pv 2)) (da_cons (de_var (pv 4)) (da_cons (de_ix cx (de_lst (da_cons
  de_int (da_cons (de_bin de_int de_int) da_nil))) (de_call cc (i := 15) (by rfl) (by rfl) cx room tk (by rfl) (da_cons (de_var (pv 2)) (da_cons de_int
  da_nil)))) da_nil)))) (dgu_bind (dg_name (pg_name (i := 5) cx.nd rfl (.inl rfl)))))
  (dss_cons (ds_asg (de_biB cx m_repr (bi_repr cx) (by rfl) b_repr
  (da_cons (de_var (pv 5)) da_nil)) (dgu_bind (dg_name (pg_name (i := 6) cx.nd rfl (.inl rfl)))))
  (dss_cons (ds_par2 (i := 7) (j := 8) cx.calm cx.nd rfl rfl
  (by decide) rfl rfl (da_cons (de_call cc (i := 18) (by rfl) (by rfl) cx room tk (by rfl) (da_cons (de_ix cx (de_var (pv 5)) de_int) da_nil)) (da_cons
  (de_call cc (i := 18) (by rfl) (by rfl) cx room tk (by rfl) (da_cons (de_ix cx (de_var (pv 5)) de_int) da_nil)) da_nil)) (by rfl))
  (dss_cons (ds_if (dw_or
  (dt_cmp cx (de_call cc (i := 10) (by rfl) (by rfl) cx room tk (by rfl) (da_cons (de_var (pv 5)) da_nil)) (de_tup (da_cons (de_var (pv 8)) (da_cons (de_var
  (pv 7)) da_nil)))) (dw_one_or (dt_cmp cx (de_callk0 (q := (0, ["city"], [0])) cc (i := 10) (j := 0) (by rfl) (by rfl) (by rfl) cx room tk (by rfl) (dk_cons
  (de_var (pv 5)) dk_nil)) (de_tup (da_cons (de_var (pv 8)) (da_cons (de_var (pv 7)) da_nil)))))).pt (dss_cons (ds_ret de_bl)
  dss_nil) dss_nil)
  (dss_cons
  (ds_asg (de_lst (da_cons (de_call cc (i := 21) (by rfl) (by rfl) cx room tk (by rfl) (da_cons (de_var (pv 2)) (da_cons (de_ix cx (de_var (pv 5)) de_int)
  da_nil))) (da_cons (de_call cc (i := 21) (by rfl) (by rfl) cx room tk (by rfl) (da_cons (de_var (pv 2)) (da_cons (de_ix cx (de_var (pv 5)) de_int) da_nil)))
  da_nil))) (dgu_bind (dg_name (pg_name (i := 9) cx.nd rfl (.inl rfl)))))
  (dss_cons (ds_for ow cx.calm (di_enum cx (by rfl) (de_lst (da_cons de_str (da_cons
  de_str da_nil)))) (dg_tup cx.calm (dgs_cons (dg_name (pg_name (i := 10) cx.nd rfl (.inl rfl))) (dgs_cons (dg_name (pg_name (i := 11) cx.nd rfl (.inl rfl)))
  dgs_nil))) (dss_cons (ds_for ow cx.calm (di_itr (de_ix cx (de_var (pv 9)) (de_var (pv 10)))) (dg_name (pg_name (i := 12) cx.nd rfl (.inl rfl))) (dss_cons
  (ds_asg (de_call cc (i := 19) (by rfl) (by rfl) cx room tk (by rfl) (da_cons (de_ix cx (de_var (pv 5)) (de_var (pv 10))) (da_cons (de_var (pv 12)) da_nil)))
  (dgu_bind (dg_name (pg_name (i := 13) cx.nd rfl (.inl rfl)))))
  (dss_cons (ds_if (dt_cmp cx (de_call cc (i := 20) (by rfl) (by rfl) cx room tk (by rfl)
  (da_cons (de_var (pv 5)) (da_cons (de_var (pv 11)) (da_cons (de_var (pv 12)) (da_cons (de_cmp cx (de_var (pv 3)) de_int) da_nil))))) (de_var (pv 13)))
  (dss_cons (ds_ret de_bl)
  dss_nil) dss_nil)
  dss_nil)))
  dss_nil))
  (dss_cons (ds_for ow cx.calm (di_itr (de_sl (de_ix cx (de_var (pv 9)) de_int)
  (dp_some (de_neg de_int)) dp_none)) (dg_name (pg_name (i := 14) cx.nd rfl (.inl rfl))) (dss_cons (ds_for ow cx.calm (di_itr (de_sl (de_ix cx (de_var (pv 9))
  de_int) (dp_some (de_neg de_int)) dp_none)) (dg_name (pg_name (i := 15) cx.nd rfl (.inl rfl))) (dss_cons (ds_asg (de_and (de_cmp2 cx de_int (de_var (pv 15))
  (de_var (pv 8))) (pe_one (de_cmp2 cx de_int (de_var (pv 14)) (de_var (pv 7))))) (dgu_bind (dg_name (pg_name (i := 13) cx.nd rfl (.inl rfl)))))
  (dss_cons
  (ds_if (dt_cmp cx (de_biB cx m_repr (bi_repr cx) (by rfl) b_repr (da_cons (de_call cc (i := 13) (by rfl) (by rfl) cx room tk (by rfl) (da_cons (de_var (pv
  5)) (da_cons (de_tup (da_cons (de_var (pv 15)) (da_cons (de_var (pv 14)) da_nil))) da_nil))) da_nil)) (de_biB cx m_repr (bi_repr cx) (by rfl) b_repr (da_cons
  (de_var (pv 13)) da_nil))) (dss_cons (ds_ret de_bl)
  dss_nil) dss_nil)
  (dss_cons (ds_if (dt_cmp cx (de_biB cx m_repr (bi_repr cx) (by rfl) b_repr (da_cons
  (de_callk0 (q := (0, ["city", "value"], [0, 1])) cc (i := 13) (j := 0) (by rfl) (by rfl) (by rfl) cx room tk (by rfl) (dk_cons (de_var (pv 5)) (dk_cons
  (de_tup (da_cons (de_var (pv 15)) (da_cons (de_var (pv 14)) da_nil))) dk_nil))) da_nil)) (de_biB cx m_repr (bi_repr cx) (by rfl) b_repr (da_cons (de_var (pv
  13)) da_nil))) (dss_cons (ds_ret de_bl)
  dss_nil) dss_nil)
  dss_nil))))
  dss_nil))
  (dss_cons (ds_if (dt_cmp cx (de_biB cx m_repr (bi_repr cx) (by rfl)
  b_repr (da_cons (de_var (pv 5)) da_nil)) (de_var (pv 6))) (dss_cons (ds_ret de_bl)
  dss_nil) dss_nil)
  dss_nil))))))))))
  dss_nil)))
  (dss_cons (ds_asg
  (de_tup (da_cons (de_tup (da_cons (de_tup (da_cons de_str (da_cons de_int da_nil))) da_nil)) (da_cons (de_tup (da_cons (de_tup (da_cons de_str (da_cons
  de_int da_nil))) da_nil)) da_nil))) (dgu_bind (dg_name (pg_name (i := 5) cx.nd rfl (.inl rfl)))))
  (dss_cons (ds_ret (de_and (de_cmp cx (de_call cc (i :=
  10) (by rfl) (by rfl) cx room tk (by rfl) (da_cons (de_var (pv 5)) da_nil)) (de_tup (da_cons de_int (da_cons de_int da_nil)))) (pe_one (de_cmp cx (de_call cc
  (i := 12) (by rfl) (by rfl) cx room tk (by rfl) (da_cons (de_var (pv 5)) (da_cons (de_tup (da_cons de_str (da_cons de_int da_nil))) da_nil))) de_str))))
  dss_nil)))
theorem calls_ok (tx : Txt K mg w) : ∀ k, Calls P w K mg base k nms kwt T (CF k)
  | 0 => ⟨fun i x fd hx hT => by
    match i, hx, hT with
    | 0, hx, hT => cases hx; cases hT; exact at_zero tx.t_is_integer (CF 0 0) (fun _ _ => rfl)
    | 1, hx, hT => cases hx; cases hT; exact at_zero tx.t_is_run (CF 0 1) (fun _ _ => rfl)
    | 2, hx, hT => cases hx; cases hT; exact at_zero tx.t_are_runs (CF 0 2) (fun _ _ => rfl)
    | 3, hx, hT => cases hx; cases hT; exact at_zero tx.t_is_city (CF 0 3) (fun _ _ => rfl)
    | 4, hx, hT => cases hx; cases hT; exact at_zero tx.t_check_city (CF 0 4) (fun _ _ => rfl)
    | 5, hx, hT => cases hx; cases hT; exact at_zero tx.t_count_streets (CF 0 5) (fun _ _ => rfl)
    | 6, hx, hT => cases hx; cases hT; exact at_zero tx.t_street_run (CF 0 6) (fun _ _ => rfl)
    | 7, hx, hT => cases hx; cases hT; exact at_zero tx.t_is_street (CF 0 7) (fun _ _ => rfl)
    | 8, hx, hT => cases hx; cases hT; exact at_zero tx.t_is_place (CF 0 8) (fun _ _ => rfl)
    | 9, hx, hT => cases hx; cases hT; exact at_zero tx.t_check_street (CF 0 9) (fun _ _ => rfl)
    | 10, hx, hT => cases hx; cases hT; exact at_zero tx.t_grid_size (CF 0 10) (fun _ _ => rfl)
    | 11, hx, hT => cases hx; cases hT; exact at_zero tx.t_direction_of (CF 0 11) (fun _ _ => rfl)
    | 12, hx, hT => cases hx; cases hT; exact at_zero tx.t_street_direction (CF 0 12) (fun _ _ => rfl)
    | 13, hx, hT => cases hx; cases hT; exact at_zero tx.t_is_point (CF 0 13) (fun _ _ => rfl)
    | 14, hx, hT => cases hx; cases hT; exact at_zero tx.t__law_source (CF 0 14) (fun _ _ => rfl)
    | 15, hx, hT => cases hx; cases hT; exact at_zero tx.t__law_draw (CF 0 15) (fun _ _ => rfl)
    | 16, hx, hT => cases hx; cases hT; exact at_zero tx.t__law_runs (CF 0 16) (fun _ _ => rfl)
    | 17, hx, hT => cases hx; cases hT; exact at_zero tx.t__law_town (CF 0 17) (fun _ _ => rfl)
    | 18, hx, hT => cases hx; cases hT; exact at_zero tx.t__law_size (CF 0 18) (fun _ _ => rfl)
    | 19, hx, hT => cases hx; cases hT; exact at_zero tx.t__law_sign (CF 0 19) (fun _ _ => rfl)
    | 20, hx, hT => cases hx; cases hT; exact at_zero tx.t__law_told (CF 0 20) (fun _ _ => rfl)
    | 21, hx, hT => cases hx; cases hT; exact at_zero tx.t__law_numbers (CF 0 21) (fun _ _ => rfl)
    | 22, hx, hT => cases hx; cases hT; exact at_zero tx.t_law (CF 0 22) (fun _ _ => rfl)
    | n + 23, hx, hT => cases hx⟩
  | k + 1 => ⟨fun i x fd hx hT => by
    have cc := calls_ok tx k
    match i, hx, hT with
    | 0, hx, hT => cases hx; cases hT; exact at_is_integer tx cc
    | 1, hx, hT => cases hx; cases hT; exact at_is_run tx cc
    | 2, hx, hT => cases hx; cases hT; exact at_are_runs tx cc
    | 3, hx, hT => cases hx; cases hT; exact at_is_city tx cc
    | 4, hx, hT => cases hx; cases hT; exact at_check_city tx cc
    | 5, hx, hT => cases hx; cases hT; exact at_count_streets tx cc
    | 6, hx, hT => cases hx; cases hT; exact at_street_run tx cc
    | 7, hx, hT => cases hx; cases hT; exact at_is_street tx cc
    | 8, hx, hT => cases hx; cases hT; exact at_is_place tx cc
    | 9, hx, hT => cases hx; cases hT; exact at_check_street tx cc
    | 10, hx, hT => cases hx; cases hT; exact at_grid_size tx cc
    | 11, hx, hT => cases hx; cases hT; exact at_direction_of tx cc
    | 12, hx, hT => cases hx; cases hT; exact at_street_direction tx cc
    | 13, hx, hT => cases hx; cases hT; exact at_is_point tx cc
    | 14, hx, hT => cases hx; cases hT; exact at__law_source tx cc
    | 15, hx, hT => cases hx; cases hT; exact at__law_draw tx cc
    | 16, hx, hT => cases hx; cases hT; exact at__law_runs tx cc
    | 17, hx, hT => cases hx; cases hT; exact at__law_town tx cc
    | 18, hx, hT => cases hx; cases hT; exact at__law_size tx cc
    | 19, hx, hT => cases hx; cases hT; exact at__law_sign tx cc
    | 20, hx, hT => cases hx; cases hT; exact at__law_told tx cc
    | 21, hx, hT => cases hx; cases hT; exact at__law_numbers tx cc
    | 22, hx, hT => cases hx; cases hT; exact at_law tx cc
    | n + 23, hx, hT => cases hx⟩
end
/-! ### what the top says -/
def d_is_integer : He.FnD := ⟨("is_integer", none), "is_integer", "is_integer", defArgs s_is_integer, defBody s_is_integer, defScope s_is_integer⟩
def d_is_run : He.FnD := ⟨("is_run", none), "is_run", "is_run", defArgs s_is_run, defBody s_is_run, defScope s_is_run⟩
def d_are_runs : He.FnD := ⟨("are_runs", none), "are_runs", "are_runs", defArgs s_are_runs, defBody s_are_runs, defScope s_are_runs⟩
def d_is_city : He.FnD := ⟨("is_city", none), "is_city", "is_city", defArgs s_is_city, defBody s_is_city, defScope s_is_city⟩
def d_check_city : He.FnD := ⟨("check_city", none), "check_city", "check_city", defArgs s_check_city, defBody s_check_city, defScope s_check_city⟩
def d_count_streets : He.FnD := ⟨("count_streets", none), "count_streets", "count_streets", defArgs s_count_streets, defBody s_count_streets, defScope s_count_streets⟩
def d_street_run : He.FnD := ⟨("street_run", none), "street_run", "street_run", defArgs s_street_run, defBody s_street_run, defScope s_street_run⟩
def d_is_street : He.FnD := ⟨("is_street", none), "is_street", "is_street", defArgs s_is_street, defBody s_is_street, defScope s_is_street⟩
def d_is_place : He.FnD := ⟨("is_place", none), "is_place", "is_place", defArgs s_is_place, defBody s_is_place, defScope s_is_place⟩
def d_check_street : He.FnD := ⟨("check_street", none), "check_street", "check_street", defArgs s_check_street, defBody s_check_street, defScope s_check_street⟩
def d_grid_size : He.FnD := ⟨("grid_size", none), "grid_size", "grid_size", defArgs s_grid_size, defBody s_grid_size, defScope s_grid_size⟩
def d_direction_of : He.FnD := ⟨("direction_of", none), "direction_of", "direction_of", defArgs s_direction_of, defBody s_direction_of, defScope s_direction_of⟩
def d_street_direction : He.FnD := ⟨("street_direction", none), "street_direction", "street_direction", defArgs s_street_direction, defBody s_street_direction, defScope s_street_direction⟩
def d_is_point : He.FnD := ⟨("is_point", none), "is_point", "is_point", defArgs s_is_point, defBody s_is_point, defScope s_is_point⟩
def d__law_source : He.FnD := ⟨("_law_source", none), "_law_source", "_law_source", defArgs s__law_source, defBody s__law_source, defScope s__law_source⟩
def d__law_draw : He.FnD := ⟨("_law_draw", none), "_law_draw", "_law_draw", defArgs s__law_draw, defBody s__law_draw, defScope s__law_draw⟩
def d__law_runs : He.FnD := ⟨("_law_runs", none), "_law_runs", "_law_runs", defArgs s__law_runs, defBody s__law_runs, defScope s__law_runs⟩
def d__law_town : He.FnD := ⟨("_law_town", none), "_law_town", "_law_town", defArgs s__law_town, defBody s__law_town, defScope s__law_town⟩
def d__law_size : He.FnD := ⟨("_law_size", none), "_law_size", "_law_size", defArgs s__law_size, defBody s__law_size, defScope s__law_size⟩
def d__law_sign : He.FnD := ⟨("_law_sign", none), "_law_sign", "_law_sign", defArgs s__law_sign, defBody s__law_sign, defScope s__law_sign⟩
def d__law_told : He.FnD := ⟨("_law_told", none), "_law_told", "_law_told", defArgs s__law_told, defBody s__law_told, defScope s__law_told⟩
def d__law_numbers : He.FnD := ⟨("_law_numbers", none), "_law_numbers", "_law_numbers", defArgs s__law_numbers, defBody s__law_numbers, defScope s__law_numbers⟩
def d_law : He.FnD := ⟨("law", none), "law", "law", defArgs s_law, defBody s_law, defScope s_law⟩
def fnl : List He.FnD := [d_is_integer, d_is_run, d_are_runs, d_is_city, d_check_city, d_count_streets, d_street_run, d_is_street, d_is_place, d_check_street, d_grid_size, d_direction_of, d_street_direction, d_is_point, d__law_source, d__law_draw, d__law_runs, d__law_town, d__law_size, d__law_sign, d__law_told, d__law_numbers, d_law]
def fal : List He.Fa := [.glo "is_integer", .keep "is_integer", .glo "is_run", .keep "is_run", .glo "are_runs", .keep "are_runs", .glo "is_city", .keep "is_city", .glo "check_city", .keep "check_city", .glo "count_streets", .keep "count_streets", .glo "street_run", .keep "street_run", .glo "is_street", .keep "is_street", .glo "is_place", .keep "is_place", .glo "check_street", .keep "check_street", .glo "grid_size", .keep "grid_size", .glo "direction_of", .keep "direction_of", .glo "street_direction", .keep "street_direction", .glo "is_point", .keep "is_point", .glo "_law_source", .keep "_law_source", .glo "_law_draw", .keep "_law_draw", .glo "_law_runs", .keep "_law_runs", .glo "_law_town", .keep "_law_town", .glo "_law_size", .keep "_law_size", .glo "_law_sign", .keep "_law_sign", .glo "_law_told", .keep "_law_told", .glo "_law_numbers", .keep "_law_numbers", .glo "law", .keep "law", .free "len", .free "abs", .free "sum", .free "min", .free "max", .free "all", .free "any", .free "sorted", .free "repr", .free "int", .free "str", .free "list", .free "tuple", .free "set", .free "isinstance", .free "range", .free "zip", .free "enumerate", .free "bool", .free "dict", .glo "CityError", .exc "CityError", .glo "InvalidCity", .exc "InvalidCity", .glo "InvalidStreet", .exc "InvalidStreet", .exm "CityError" "InvalidStreet" false, .exm "InvalidCity" "InvalidStreet" false, .exm "InvalidStreet" "InvalidStreet" true]
theorem txt_of {w : World} {K : PySem.W.Frag} {mg : Str → Option Value} {h : Heap} (X : K.In h) (G0 : h.Ns mainGlobals mg) (c0 : SaysC fal fnl cns tbs w K) : Txt K mg w where
  nob := ⟨fun x hx => by
    exact nob_at X G0 c0.e 46 (fun i y e => by
      match i, e with
      | 0, e => cases e; rfl
      | 1, e => cases e; rfl
      | 2, e => cases e; rfl
      | 3, e => cases e; rfl
      | 4, e => cases e; rfl
      | 5, e => cases e; rfl
      | 6, e => cases e; rfl
      | 7, e => cases e; rfl
      | 8, e => cases e; rfl
      | 9, e => cases e; rfl
      | 10, e => cases e; rfl
      | 11, e => cases e; rfl
      | 12, e => cases e; rfl
      | 13, e => cases e; rfl
      | 14, e => cases e; rfl
      | 15, e => cases e; rfl
      | 16, e => cases e; rfl
      | 17, e => cases e; rfl
      | 18, e => cases e; rfl
      | 19, e => cases e; rfl
      | n + 20, e => cases e) hx⟩
  gok := fun i x d hx hG => by
    match i, hx, hG with
    | 0, hx, hG => cases hx; cases hG; exact conK_ok X G0 (c0.con 0 (by rfl))
    | 1, hx, hG => cases hx; cases hG; exact conK_ok X G0 (c0.con 1 (by rfl))
    | 2, hx, hG => cases hx; cases hG; exact conK_ok X G0 (c0.con 2 (by rfl))
    | 3, hx, hG => cases hx; cases hG; exact conK_ok X G0 (c0.con 3 (by rfl))
    | 4, hx, hG => cases hx; cases hG; exact conK_ok X G0 (c0.con 4 (by rfl))
    | 5, hx, hG => cases hx; cases hG; exact conK_ok X G0 (c0.con 5 (by rfl))
    | n + 6, hx, hG => cases hx
  t_is_integer := fnTxt_of X G0 (c0.e.fact 0 (by rfl)) (c0.e.fact 1 (by rfl)) (c0.e.def_ 0 (d := d_is_integer) (by rfl))
    (fun _ _ _ _ _ _ us hl => match us, hl with | [_, _], _ => rfl)
    (fun _ _ _ _ _ _ q hq => nomatch hq)
  t_is_run := fnTxt_of X G0 (c0.e.fact 2 (by rfl)) (c0.e.fact 3 (by rfl)) (c0.e.def_ 1 (d := d_is_run) (by rfl))
    (fun _ _ _ _ _ _ us hl => match us, hl with | [_, _], _ => rfl)
    (fun _ _ _ _ _ _ q hq => nomatch hq)
  t_are_runs := fnTxt_of X G0 (c0.e.fact 4 (by rfl)) (c0.e.fact 5 (by rfl)) (c0.e.def_ 2 (d := d_are_runs) (by rfl))
    (fun _ _ _ _ _ _ us hl => match us, hl with | [_, _], _ => rfl)
    (fun _ _ _ _ _ _ q hq => nomatch hq)
  t_is_city := fnTxt_of X G0 (c0.e.fact 6 (by rfl)) (c0.e.fact 7 (by rfl)) (c0.e.def_ 3 (d := d_is_city) (by rfl))
    (fun _ _ _ _ _ _ us hl => match us, hl with | [_], _ => rfl)
    (fun _ _ _ _ _ _ q hq => nomatch hq)
  t_check_city := fnTxt_of X G0 (c0.e.fact 8 (by rfl)) (c0.e.fact 9 (by rfl)) (c0.e.def_ 4 (d := d_check_city) (by rfl))
    (fun _ _ _ _ _ _ us hl => match us, hl with | [_], _ => rfl)
    (fun _ _ _ _ _ _ q hq => nomatch hq)
  t_count_streets := fnTxt_of X G0 (c0.e.fact 10 (by rfl)) (c0.e.fact 11 (by rfl)) (c0.e.def_ 5 (d := d_count_streets) (by rfl))
    (fun _ _ _ _ _ _ us hl => match us, hl with | [_], _ => rfl)
    (fun _ _ _ _ _ _ q hq => nomatch hq)
  t_street_run := fnTxt_of X G0 (c0.e.fact 12 (by rfl)) (c0.e.fact 13 (by rfl)) (c0.e.def_ 6 (d := d_street_run) (by rfl))
    (fun _ _ _ _ _ _ us hl => match us, hl with | [_, _], _ => rfl)
    (fun _ _ _ _ _ _ q hq => nomatch hq)
  t_is_street := fnTxt_of X G0 (c0.e.fact 14 (by rfl)) (c0.e.fact 15 (by rfl)) (c0.e.def_ 7 (d := d_is_street) (by rfl))
    (fun _ _ _ _ _ _ us hl => match us, hl with | [_, _], _ => rfl)
    (fun _ _ _ _ _ _ q hq => nomatch hq)
  t_is_place := fnTxt_of X G0 (c0.e.fact 16 (by rfl)) (c0.e.fact 17 (by rfl)) (c0.e.def_ 8 (d := d_is_place) (by rfl))
    (fun _ _ _ _ _ _ us hl => match us, hl with | [_, _], _ => rfl)
    (fun _ _ _ _ _ _ q hq => nomatch hq)
  t_check_street := fnTxt_of X G0 (c0.e.fact 18 (by rfl)) (c0.e.fact 19 (by rfl)) (c0.e.def_ 9 (d := d_check_street) (by rfl))
    (fun _ _ _ _ _ _ us hl => match us, hl with | [_, _], _ => rfl)
    (fun _ _ _ _ _ _ q hq => nomatch hq)
  t_grid_size := fnTxt_of X G0 (c0.e.fact 20 (by rfl)) (c0.e.fact 21 (by rfl)) (c0.e.def_ 10 (d := d_grid_size) (by rfl))
    (fun _ _ _ _ _ _ us hl => match us, hl with | [_], _ => rfl)
    (fun _ _ _ _ _ _ q hq => by
      have hq : q ∈ [((0, ["city"], [0]) : Nat × List Str × List Nat)] := hq
      simp only [List.mem_cons, List.not_mem_nil, or_false] at hq
      rcases hq with rfl
      · intro s us ws zs h1 h2 h3
        match us, ws, h1, h2, h3 with
        | [], [_], _, _, h3 => cases h3; exact .of_eq rfl)
  t_direction_of := fnTxt_of X G0 (c0.e.fact 22 (by rfl)) (c0.e.fact 23 (by rfl)) (c0.e.def_ 11 (d := d_direction_of) (by rfl))
    (fun _ _ _ _ _ _ us hl => match us, hl with | [_, _], _ => rfl)
    (fun _ _ _ _ _ _ q hq => nomatch hq)
  t_street_direction := fnTxt_of X G0 (c0.e.fact 24 (by rfl)) (c0.e.fact 25 (by rfl)) (c0.e.def_ 12 (d := d_street_direction) (by rfl))
    (fun _ _ _ _ _ _ us hl => match us, hl with | [_, _], _ => rfl)
    (fun _ _ _ _ _ _ q hq => by
      have hq : q ∈ [((0, ["city", "street"], [0, 1]) : Nat × List Str × List Nat)] := hq
      simp only [List.mem_cons, List.not_mem_nil, or_false] at hq
      rcases hq with rfl
      · intro s us ws zs h1 h2 h3
        match us, ws, h1, h2, h3 with
        | [], [_, _], _, _, h3 => cases h3; exact .of_eq rfl)
  t_is_point := fnTxt_of X G0 (c0.e.fact 26 (by rfl)) (c0.e.fact 27 (by rfl)) (c0.e.def_ 13 (d := d_is_point) (by rfl))
    (fun _ _ _ _ _ _ us hl => match us, hl with | [_, _], _ => rfl)
    (fun _ _ _ _ _ _ q hq => by
      have hq : q ∈ [((0, ["city", "value"], [0, 1]) : Nat × List Str × List Nat)] := hq
      simp only [List.mem_cons, List.not_mem_nil, or_false] at hq
      rcases hq with rfl
      · intro s us ws zs h1 h2 h3
        match us, ws, h1, h2, h3 with
        | [], [_, _], _, _, h3 => cases h3; exact .of_eq rfl)
  t__law_source := fnTxt_of X G0 (c0.e.fact 28 (by rfl)) (c0.e.fact 29 (by rfl)) (c0.e.def_ 14 (d := d__law_source) (by rfl))
    (fun _ _ _ _ _ _ us hl => match us, hl with | [_, _], _ => rfl)
    (fun _ _ _ _ _ _ q hq => nomatch hq)
  t__law_draw := fnTxt_of X G0 (c0.e.fact 30 (by rfl)) (c0.e.fact 31 (by rfl)) (c0.e.def_ 15 (d := d__law_draw) (by rfl))
    (fun _ _ _ _ _ _ us hl => match us, hl with | [_, _], _ => rfl)
    (fun _ _ _ _ _ _ q hq => nomatch hq)
  t__law_runs := fnTxt_of X G0 (c0.e.fact 32 (by rfl)) (c0.e.fact 33 (by rfl)) (c0.e.def_ 16 (d := d__law_runs) (by rfl))
    (fun _ _ _ _ _ _ us hl => match us, hl with | [_, _, _, _], _ => rfl)
    (fun _ _ _ _ _ _ q hq => nomatch hq)
  t__law_town := fnTxt_of X G0 (c0.e.fact 34 (by rfl)) (c0.e.fact 35 (by rfl)) (c0.e.def_ 17 (d := d__law_town) (by rfl))
    (fun _ _ _ _ _ _ us hl => match us, hl with | [_, _, _], _ => rfl)
    (fun _ _ _ _ _ _ q hq => nomatch hq)
  t__law_size := fnTxt_of X G0 (c0.e.fact 36 (by rfl)) (c0.e.fact 37 (by rfl)) (c0.e.def_ 18 (d := d__law_size) (by rfl))
    (fun _ _ _ _ _ _ us hl => match us, hl with | [_], _ => rfl)
    (fun _ _ _ _ _ _ q hq => nomatch hq)
  t__law_sign := fnTxt_of X G0 (c0.e.fact 38 (by rfl)) (c0.e.fact 39 (by rfl)) (c0.e.def_ 19 (d := d__law_sign) (by rfl))
    (fun _ _ _ _ _ _ us hl => match us, hl with | [_, _], _ => rfl)
    (fun _ _ _ _ _ _ q hq => nomatch hq)
  t__law_told := fnTxt_of X G0 (c0.e.fact 40 (by rfl)) (c0.e.fact 41 (by rfl)) (c0.e.def_ 20 (d := d__law_told) (by rfl))
    (fun _ _ _ _ _ _ us hl => match us, hl with | [_, _, _, _], _ => rfl)
    (fun _ _ _ _ _ _ q hq => nomatch hq)
  t__law_numbers := fnTxt_of X G0 (c0.e.fact 42 (by rfl)) (c0.e.fact 43 (by rfl)) (c0.e.def_ 21 (d := d__law_numbers) (by rfl))
    (fun _ _ _ _ _ _ us hl => match us, hl with | [_, _], _ => rfl)
    (fun _ _ _ _ _ _ q hq => nomatch hq)
  t_law := fnTxt_of X G0 (c0.e.fact 44 (by rfl)) (c0.e.fact 45 (by rfl)) (c0.e.def_ 22 (d := d_law) (by rfl))
    (fun _ _ _ _ _ _ us hl => match us, hl with | [_], _ => rfl)
    (fun _ _ _ _ _ _ q hq => nomatch hq)
  x_CityError := exTxt_of X G0 (c0.e.fact 66 (by rfl)) (c0.e.fact 67 (by rfl))
  x_InvalidCity := exTxt_of X G0 (c0.e.fact 68 (by rfl)) (c0.e.fact 69 (by rfl))
  x_InvalidStreet := exTxt_of X G0 (c0.e.fact 70 (by rfl)) (c0.e.fact 71 (by rfl))
  m_CityError_InvalidStreet := exmTxt_of X G0 (c0.e.fact 66 (by rfl)) (c0.e.fact 70 (by rfl)) (c0.e.fact 72 (by rfl))
  m_InvalidCity_InvalidStreet := exmTxt_of X G0 (c0.e.fact 68 (by rfl)) (c0.e.fact 70 (by rfl)) (c0.e.fact 73 (by rfl))
  m_InvalidStreet_InvalidStreet := exmTxt_of X G0 (c0.e.fact 70 (by rfl)) (c0.e.fact 70 (by rfl)) (c0.e.fact 74 (by rfl))
def lo0 : List PySem.Str := ["__name__", "CityError", "InvalidCity", "InvalidStreet", "EAST", "WEST", "NORTH", "SOUTH", "ROW", "COLUMN", "is_integer", "is_run", "are_runs", "is_city", "check_city", "count_streets", "street_run", "is_street", "is_place", "check_street", "grid_size", "direction_of", "street_direction", "is_point", "_law_source", "_law_draw", "_law_runs", "_law_town", "_law_size", "_law_sign"]
def lo1 : List PySem.Str := ["_law_told", "_law_numbers"]
def loose : List PySem.Str := lo0 ++ lo1
abbrev RR : PySem.W.OpenRow := PySem.W.OpenLaw.row PySem.Challenge.rw_cornercity_k02_sizes_and_directions
abbrev hk : PySem.W.Hook := hookC 4 fal fnl cns tbs
def ob (s : PySem.W.SharedT) : AlC := obsCG 4 fal fnl cns tbs (HandSHeadRun.getT s)
theorem ob_eq (s : PySem.W.SharedT) : ob s = hk.obs s.abs := obsCG_eq (HandSHeadRun.getT_eq s)
theorem run_top (w : World) : HandSHeadRun.RunEq RR (PySem.W.view RR.prog [34]) hk ob 4000 loose w := by
  intro os
  kernel_rfl
end CC

namespace CC
open PySem PySem.Spec PyProof.Rows L2
section
variable {k : Nat} {v : D} {S : Sto} {Q : D → Sto → Prop} {E : Nat → List D → Sto → Prop}
theorem w_is_integer {low : Int} (hv : (tyOfD v S).isSome = true) (h : Q (.bl (isIntD v low)) S) : WR (CF (k + 1) f_is_integer [v, .int low] S) Q E := by
  show WR (endR (run W (CF k) G bd_is_integer [some v, some (.int low)] S)) Q E
  rw [w_end]
  unfold bd_is_integer
  simp
  rw [isi_int hv, isi_bool hv]
  cases v <;> simpa [isIB, isBB, isIntD] using h
theorem w_is_run {a b : Str} (hv : Nice 2 v S) (h : Q (.bl (isRunD a b v)) S) : WR (CF (k + 2) f_is_run [v, .tup [.str a, .str b]] S) Q E := by
  show WR (endR (run W (CF (k + 1)) G bd_is_run [some v, some (.tup [.str a, .str b])] S)) Q E
  rw [w_end]
  unfold bd_is_run
  simp
  rw [isi_tuple hv.1]
  cases v with
  | tup ds =>
    have hn := (hv.2 ds rfl).2
    match ds, hn, h with
    | [], _, h => exact h
    | [x], _, h =>
      rw [isRunD_len (by simp)] at h
      simp only [isTB, l_tup, optP_some, if_true, List.length_cons, List.length_nil]
      rw [if_neg (by decide)]
      exact h
    | _ :: _ :: _ :: r, _, h =>
      rw [isRunD_len (by simp)] at h
      simp only [isTB, l_tup, optP_some, if_true, List.length_cons]
      rw [if_neg (by omega)]
      exact h
    | [x, y], hn, h =>
      have hx := hn x (by simp)
      have hy := hn y (by simp)
      simp [isTB, isi_str hx.1]
      cases x with
      | str d =>
        simp [isSB, inSeq2]
        refine ite2 (fun e => w_is_integer hy.1 ?_) (fun e => ?_)
        · have e' : (d == a || d == b) = true := by simpa using e
          simpa [isRunD, e'] using h
        · have e' : (d == a || d == b) = false := by simpa using e
          simpa [isRunD, e'] using h
      | _ => exact h
  | _ => exact h
theorem w_are_runs {a b : Str} (hv : Nice 3 v S) (h : ∀ S', Ext S S' → Q (.bl (areRunsD a b v)) S') : WR (CF (k + 3) f_are_runs [v, .tup [.str a, .str b]] S) Q E := by
  show WR (endR (run W (CF (k + 2)) G bd_are_runs [some v, some (.tup [.str a, .str b]), none, none, none] S)) Q E
  rw [w_end]
  unfold bd_are_runs
  simp
  rw [isi_tuple hv.1]
  cases v with
  | tup ds =>
    obtain ⟨hl, hn⟩ := hv.2 ds rfl
    simp only [isTB, l_tup, optP_some, if_true]
    refine ite2 (fun e => ?_) (fun e => ?_)
    · rw [if_pos e]
      have e' : ds = [] := List.length_eq_zero_iff.mp e
      subst e'
      exact h S (.refl S)
    · rw [so_tup, optP_some]
      refine wp_lcl_map (fun d => .bl (isRunD a b d)) hl (fun _ _ => rfl) (fun d hd S1 x1 => ⟨_, rfl, ?_⟩) (fun S1 x1 => ?_)
      · simp
        exact w_is_run ((hn d hd).ext x1) ⟨rfl, .refl _⟩
      · have ne : ds.isEmpty = false := by cases ds <;> simp_all
        simp only [blsOf_map, optP_some]
        refine ite2 (fun e1 => ?_) (fun e1 => ?_)
        · have z : ds.all (isRunD a b) = false := by
            rw [Bool.eq_false_iff]
            intro z
            obtain ⟨d, hd, hf⟩ := List.mem_map.mp e1
            rw [List.all_eq_true.mp z d hd] at hf
            cases hf
          have h2 := h _ (x1.to (.lst (ds.map fun d => .bl (isRunD a b d))))
          simpa [areRunsD, ne, z] using h2
        · have z : ds.all (isRunD a b) = true := by
            rw [List.all_eq_true]
            intro d hd
            cases hf : isRunD a b d with
            | true => rfl
            | false => exact absurd (List.mem_map.mpr ⟨d, hd, hf⟩) e1
          rw [sl_tupW, w_ok, zipP_tup, cut1]
          refine wp_lcl_map (fun d => match d with
            | .tup [x, y] => .bl (fstS x != fstS y)
            | _ => .non) ?_ (fun _ _ => rfl) (fun d hd S2 x2 => ?_) (fun S2 x2 => ?_)
          · simp only [List.length_map, List.length_zip, List.length_tail]
            omega
          · obtain ⟨p, hp, rfl⟩ := List.mem_map.mp hd
            obtain ⟨r1, r2⟩ := zipRuns z hp
            obtain ⟨d1, c1, e1, g1⟩ := isRunD_str r1
            obtain ⟨d2, c2, e2, g2⟩ := isRunD_str r2
            refine ⟨_, rfl, ?_⟩
            simp [e1, e2, fstS]
            exact ⟨rfl, .refl _⟩
          · have em : ((ds.zip ds.tail).map fun p => D.tup [p.1, p.2]).map (fun d => match d with
              | .tup [x, y] => D.bl (fstS x != fstS y)
              | _ => .non) = (ds.zip ds.tail).map fun p => D.bl (fstS p.1 != fstS p.2) := by
              rw [List.map_map]
              rfl
            rw [em]
            have eb : blsOf ((ds.zip ds.tail).map fun p => D.bl (fstS p.1 != fstS p.2)) = some ((ds.zip ds.tail).map fun p => fstS p.1 != fstS p.2) := by
              generalize ds.zip ds.tail = l
              induction l with
              | nil => rfl
              | cons p l ih =>
                show (blsOf (l.map _)).map _ = _
                rw [ih]
                rfl
            rw [eb, optP_some]
            have h2 := h _ (((x1.to (.lst (ds.map fun d => .bl (isRunD a b d)))).trans x2).to (.lst ((ds.zip ds.tail).map fun p => D.bl (fstS p.1 != fstS p.2))))
            have ea : areRunsD a b (.tup ds) = ((ds.zip ds.tail).map fun p => fstS p.1 != fstS p.2).all id := by
              simp only [areRunsD, ne, z, List.all_map]
              rfl
            rw [ea] at h2
            exact h2
  | _ => exact h S (.refl S)
theorem w_is_city (hv : Nice 4 v S) (h : ∀ S', Ext S S' → Q (.bl (isCityD v)) S') : WR (CF (k + 4) f_is_city [v] S) Q E := by
  show WR (endR (run W (CF (k + 3)) G bd_is_city [some v] S)) Q E
  rw [w_end]
  unfold bd_is_city
  simp [G, gvs]
  rw [isi_tuple hv.1]
  cases v with
  | tup ds =>
    obtain ⟨hl, hn⟩ := hv.2 ds rfl
    simp only [isTB, l_tup, optP_some, if_true]
    refine ite2 (fun e => ?_) (fun e => ?_)
    · obtain ⟨x, y, rfl⟩ := two_of e
      simp
      refine w_are_runs (hn x (by simp)) fun S1 x1 => ?_
      simp
      cases hx : areRunsD "E" "W" x with
      | false => exact h S1 x1 |> fun z => by simpa [isCityD, hx] using z
      | true =>
        simp
        refine w_are_runs ((hn y (by simp)).ext x1) fun S2 x2 => ?_
        have z := h S2 (x1.trans x2)
        simpa [isCityD, hx] using z
    · have z := h S (.refl S)
      rw [isCityD_len (by omega)] at z
      exact z
  | _ => exact h S (.refl S)
theorem w_check_city (hv : Nice 4 v S) (h1 : isCityD v = true → ∀ S', Ext S S' → Q .non S') (h2 : isCityD v = false → ∀ S', Ext S S' → E 1 [] S') : WR (CF (k + 5) f_check_city [v] S) Q E := by
  show WR (endR (run W (CF (k + 4)) G bd_check_city [some v] S)) Q E
  rw [w_end]
  unfold bd_check_city
  simp
  refine w_is_city hv fun S1 x1 => ?_
  cases hc : isCityD v with
  | true => simpa using h1 hc S1 x1
  | false => simpa using h2 hc S1 x1
theorem w_count_streets {l : Runs} (hl : l.length ≤ sizeLine) (h : ∀ S', Ext S S' → Q (.int (total l)) S') : WR (CF (k + 1) f_count_streets [encR l] S) Q E := by
  show WR (endR (run W (CF k) G bd_count_streets [some (encR l), none, none] S)) Q E
  rw [w_end]
  unfold bd_count_streets encR
  simp
  refine wp_lcl_map (fun d => match d with
    | .tup [_, c] => c
    | _ => .non) (by simpa using hl) (fun _ _ => rfl) (fun d hd S1 x1 => ?_) (fun S1 x1 => ?_)
  · obtain ⟨p, hp, rfl⟩ := List.mem_map.mp hd
    exact ⟨_, rfl, show D.int p.2 = D.int p.2 ∧ Ext S1 S1 from ⟨rfl, .refl _⟩⟩
  · rw [List.map_map]
    have e : (l.map ((fun d => match d with
      | .tup [_, c] => c
      | _ => .non) ∘ encP)) = l.map fun p => .int p.2 := rfl
    rw [e, intsOf_map]
    exact h _ (x1.to _)
theorem w_street_run {l : Runs} {n : Int} (h : Q (encRun (runAt l n 0)) S) : WR (CF (k + 1) f_street_run [encR l, .int n] S) Q E := by
  show WR (endR (run W (CF k) G bd_street_run [some (encR l), some (.int n), none, none, none] S)) Q E
  rw [w_end]
  unfold bd_street_run encR
  simp
  refine ws_for_map (m := l) (f := encP) (fun r ρ S1 => ∃ f a b, ρ = [some (.tup (l.map encP)), some (.int n), some (.int f), a, b] ∧ S1 = S ∧ runAt l n 0 = runAt r n f) ?_ ?_ ⟨0, none, none, rfl, rfl, rfl⟩
  · rintro ⟨d, c⟩ r ρ S1 ⟨f, a, b, rfl, rfl, e⟩
    refine ⟨_, rfl, ?_⟩
    simp [encP]
    rw [runAt] at e
    refine ite2 (fun z => ?_) (fun z => ?_)
    · rw [if_pos z] at e
      rw [e] at h
      exact h
    · rw [if_neg (by omega)] at e
      exact e
  · rintro ρ S1 ⟨f, a, b, rfl, rfl, e⟩
    rw [e] at h
    exact h
theorem w_is_place {a b : Runs} (ha : a.length ≤ sizeLine) (hb : b.length ≤ sizeLine) (hv : Nice 2 v S) (h : ∀ S', Ext S S' → Q (.bl (isPlaceD a b v)) S') : WR (CF (k + 2) f_is_place [encC a b, v] S) Q E := by
  show WR (endR (run W (CF (k + 1)) G bd_is_place [some (encC a b), some v, none] S)) Q E
  rw [w_end]
  unfold bd_is_place encC
  simp
  rw [isi_tuple hv.1]
  cases v with
  | tup ds =>
    obtain ⟨hl, hn⟩ := hv.2 ds rfl
    simp only [isTB, l_tup, optP_some, if_true]
    refine ite2 (fun e => ?_) (fun e => ?_)
    · obtain ⟨x, y, rfl⟩ := two_of e
      have hx := hn x (by simp)
      have hy := hn y (by simp)
      rw [so_tup, optP_some]
      refine wp_lcl_map (fun d => .bl (isIntD d 0)) hl (fun _ _ => rfl) (fun d hd S1 x1 => ⟨_, rfl, ?_⟩) (fun S1 x1 => ?_)
      · simp
        exact w_is_integer ((hn d hd).ext x1).1 ⟨rfl, .refl _⟩
      · simp only [blsOf_map, optP_some]
        have hp : isPlaceD a b (.tup [x, y]) = true → isIntD x 0 = true ∧ isIntD y 0 = true := by
          intro z
          unfold isPlaceD at z
          split at z
          · rename_i e
            cases e
            simp only [Bool.and_eq_true] at z
            exact z.1
          · cases z
        refine ite2 (fun e1 => ?_) (fun e1 => ?_)
        · have z : isPlaceD a b (.tup [x, y]) = false := by
            rw [Bool.eq_false_iff]
            intro z
            obtain ⟨z1, z2⟩ := hp z
            simp [z1, z2] at e1
          have q := h _ (x1.to (.lst ([x, y].map fun d => D.bl (isIntD d 0))))
          rw [z] at q
          exact q
        · have z1 : isIntD x 0 = true := by
            cases q : isIntD x 0 with
            | true => rfl
            | false => exact absurd (by simp [q]) e1
          have z2 : isIntD y 0 = true := by
            cases q : isIntD y 0 with
            | true => rfl
            | false => exact absurd (by simp [q]) e1
          obtain ⟨i, rfl⟩ : ∃ i, x = .int i := by
            unfold isIntD at z1
            split at z1
            · exact ⟨_, rfl⟩
            · cases z1
          obtain ⟨j, rfl⟩ : ∃ j, y = .int j := by
            unfold isIntD at z2
            split at z2
            · exact ⟨_, rfl⟩
            · cases z2
          have z1' : 0 ≤ i := of_decide_eq_true z1
          have z2' : 0 ≤ j := of_decide_eq_true z2
          simp
          refine w_count_streets hb fun S2 x2 => ?_
          simp
          refine ite2 (fun c => ?_) (fun c => ?_)
          · refine w_count_streets ha fun S3 x3 => ?_
            have q := h S3 (((x1.to (.lst ([D.int i, D.int j].map fun d => D.bl (isIntD d 0)))).trans x2).trans x3)
            simpa [isPlaceD, z1', z2', c] using q
          · have q := h S2 ((x1.to (.lst ([D.int i, D.int j].map fun d => D.bl (isIntD d 0)))).trans x2)
            have c' : total b ≤ i := by omega
            simpa [isPlaceD, z1', z2', c, c'] using q
    · rw [if_neg e]
      have z : isPlaceD a b (.tup ds) = false := by
        unfold isPlaceD
        split
        · rename_i e1
          cases e1
          exact absurd rfl e
        · rfl
      have q := h S (.refl S)
      rw [z] at q
      exact q
  | _ => exact h S (.refl S)
theorem w_direction_of {a b : Runs} {d : Str} {n : Int} {r : Str × Int × Int} (hr : runAt (if d = "column" then b else a) n 0 = some r) (h : Q (.str r.1) S) : WR (CF (k + 2) f_direction_of [encC a b, .tup [.str d, .int n]] S) Q E := by
  show WR (endR (run W (CF (k + 1)) G bd_direction_of [some (encC a b), some (.tup [.str d, .int n])] S)) Q E
  rw [w_end]
  unfold bd_direction_of encC
  simp [G, gvs]
  by_cases hd : d = "column"
  · rw [if_pos hd] at hr ⊢
    rw [at1, optP_some]
    refine w_street_run ?_
    rw [hr]
    exact h
  · rw [if_neg hd] at hr ⊢
    rw [at0, optP_some]
    refine w_street_run ?_
    rw [hr]
    exact h
theorem w_draw {n : Nat} {c j : Int} (h : Src3 S n c) (hc : c < 2 ^ 60) (j0 : 0 < j) (j1 : j < 2 ^ 200) (hQ : ∀ r S', 0 ≤ r → r < j → Src3 S' n (c + 1) → Upd n S S' → Q (.int r) S') : WR (CF (k + 1) f__law_draw [.loc n, .int j] S) Q E := by
  obtain ⟨a, m, t, h1, h2, h3, h4, h5, h6⟩ := h
  show WR (endR (run W (CF k) G bd__law_draw [some (.loc n), some (.int j), none, none] S)) Q E
  rw [w_end]
  unfold bd__law_draw
  simp [lst_at h1]
  refine ite2 (fun ea => ?_) (fun ea => ?_)
  · refine ⟨j0, divOk_of j0 j1 (by omega), ?_⟩
    rw [setIx_at h1 (j := 0) rfl, optP_some]
    exact hQ _ _ (Int.emod_nonneg _ (by omega)) (Int.emod_lt_of_pos _ j0) ⟨_, m, t, get_set h1, Int.ediv_nonneg h2 (by omega), h3, h4, h5, by omega⟩ .set
  · rw [setIx_at h1 (j := 2) rfl, optP_some]
    simp [lst_at (get_set h1)]
    have t1 : t + 1 < 2 ^ 61 := by omega
    have b1 : 0 ≤ m + 179424673 * (t + 1) := by omega
    have b2 : m + 179424673 * (t + 1) < 2 ^ 200 := by
      have : (179424673 * (t + 1) : Int) < 2 ^ 90 := by omega
      omega
    have c0 : 0 ≤ (m + 179424673 * (t + 1)) ^ 3 % 100000000000000000000000000000000000000037 := Int.emod_nonneg _ (by decide)
    have c1 : (m + 179424673 * (t + 1)) ^ 3 % 100000000000000000000000000000000000000037 < 100000000000000000000000000000000000000037 := Int.emod_lt_of_pos _ (by decide)
    refine ⟨mulOk_of (k := 30) (l := 61) (by decide) (by decide) (by decide) (by omega) t1 (by decide) (by decide), powOk_of (k := 200) b1 b2 (by decide) (by decide) (by decide) (by decide), by decide +kernel,
      mulOk_of (k := 40) (l := 61) (by decide) (by decide) (by decide) (by omega) t1 (by decide) (by decide), ?_⟩
    generalize (m + 179424673 * (t + 1)) ^ 3 % 100000000000000000000000000000000000000037 = z at c0 c1 ⊢
    refine ⟨powOk_of (k := 200) (by omega) ?_ (by decide) (by decide) (by decide) (by decide), by decide +kernel, divOk_of (k := 30) (by decide) (by decide) (by decide), j0, ?_⟩
    · have : (22801763489 * (t + 1) : Int) < 2 ^ 100 := by omega
      omega
    · exact hQ _ _ (Int.emod_nonneg _ (by omega)) (Int.emod_lt_of_pos _ j0) ⟨a, m, t + 1, get_set h1, h2, h3, h4, by omega, by omega⟩ .set
theorem w_source {n : Nat} {ns : List Int} {i : Nat} (h : lstAt S n = some (ns.map D.int)) (hi : i < 64) (hQ : ∀ S', Src3 S' S.length 0 → Ext S S' → S'.length = S.length + 1 → Q (.loc S.length) S') : WR (CF (k + 1) f__law_source [.loc n, .int i] S) Q E := by
  show WR (endR (run W (CF k) G bd__law_source [some (.loc n), some (.int i), none] S)) Q E
  rw [w_end]
  unfold bd__law_source
  simp [h]
  have i0 : (0 : Int) ≤ i := Int.natCast_nonneg i
  have i1 : (i : Int) < 64 := by omega
  have m1 : mulOk 39916801 i = true := mulOk_of (k := 30) (l := 7) (by decide) (by decide) (by decide) i0 (by omega) (by decide) (by decide)
  refine ite2 (fun e => ?_) (fun e => ?_)
  · have e1 : (ns.map D.int)[i]? = some (.int ns[i]) := by rw [List.getElem?_map, List.getElem?_eq_getElem e]; rfl
    rw [atI_nat e1, optP_some]
    simp
    have c0 : 0 ≤ ns[i] % 10000000000000000000000000000000000000121 := Int.emod_nonneg _ (by decide)
    have c1 : ns[i] % 10000000000000000000000000000000000000121 < 10000000000000000000000000000000000000121 := Int.emod_lt_of_pos _ (by decide)
    refine ⟨by decide +kernel, by decide +kernel, m1, hQ _ ⟨_, _, 0, get_new, ?_, ?_, ?_, by decide, by decide⟩ (.push _ _) (by simp)⟩
    · split <;> omega
    · omega
    · omega
  · exact ⟨by decide +kernel, by decide +kernel, m1, hQ _ ⟨0, _, 0, get_new, by decide, by omega, by omega, by decide, by decide⟩ (.push _ _) (by simp)⟩
theorem w_runs {n : Nat} {c mo wi : Int} {pair a b : Str} (hp0 : ∀ S, ixD (.str pair) (.int 0) S = some (.str a)) (hp1 : ∀ S, ixD (.str pair) (.int 1) S = some (.str b)) (hab : a ≠ b) (h : Src3 S n c) (hc : c < 2 ^ 59) (m0 : 0 < mo) (m1 : mo ≤ 20) (w0 : 0 < wi) (w1 : wi ≤ 10 ^ 30)
    (hQ : ∀ l S', okR a b l = true → l.length ≤ 20 → BndR (10 ^ 30) l → Src3 S' n (c + 62) → Upd n S S' → Q (encR l) S') : WR (CF (k + 2) f__law_runs [.loc n, .str pair, .int mo, .int wi] S) Q E := by
  show WR (endR (run W (CF (k + 1)) G bd__law_runs [some (.loc n), some (.str pair), some (.int mo), some (.int wi), none, none, none, none] S)) Q E
  rw [w_end]
  unfold bd__law_runs
  simp
  refine w_draw h (by omega) (by decide) (by decide) fun at_ S1 r0 r1 s1 u1 => ?_
  simp [parE]
  refine w_draw (s1.ext (.push _ _)) (by omega) m0 (by omega) fun r S2 q0 q1 s2 u2 => ?_
  simp
  have sm : small62 (1 + r) = true := small62_of (by omega) (by omega)
  refine ⟨sm, ?_⟩
  have hn := h.lt
  have nq : n ≠ S1.length := by have := s1.lt; omega
  have U2 : Upd n S S2 := (u1.trans (Ext.push _ _).upd).trans u2
  have F2 : S2[S1.length]? = some (.lst []) := u2.2 _ _ (by omega) get_new
  refine ws_range (fun i ρ S3 => ∃ (y z : Option D) (l : Runs), ρ = [some (.loc n), some (.str pair), some (.int mo), some (.int wi), some (.int at_), some (.loc S1.length), y, z] ∧ S3[S1.length]? = some (.lst (l.map encP)) ∧ l.length = i ∧ Src3 S3 n (c + 2 + 3 * (i : Nat)) ∧ Upd n S S3 ∧ BndR (10 ^ 30) l ∧ AltR a b at_ l) ?_ ?_ ⟨none, none, [], rfl, F2, rfl, s2.le (by omega), U2, (by intro p h; cases h), (by intro j p h; simp at h)⟩
  · rintro i ρ S3 hi ⟨y, z, l, rfl, F3, hl, s3, u3, hb, ha⟩
    simp
    refine w_draw s3 (by omega) (by decide) (by decide) fun x1 T1 g1 g2 s4 u4 => ?_
    simp
    refine w_draw s4 (by omega) w0 (by omega) fun x2 T2 g3 g4 s5 u5 => ?_
    simp
    refine w_draw (s5.ext (.push _ _)) (by omega) (by decide) (by decide) fun x3 T3 g5 g6 s6 u6 => ?_
    simp
    have L3 : lstAt T3 T2.length = some [.int 1, .int (1 + x1), .int (1 + x2)] := u6.lst (by have := s5.lt; omega) lst_new
    have F4 : T3[S1.length]? = some (.lst (l.map encP)) := u6.2 _ _ (Ne.symm nq) ((Ext.push _ _).get (u5.2 _ _ (Ne.symm nq) (u4.2 _ _ (Ne.symm nq) F3)))
    have U6 : Upd n S T3 := (((u3.trans u4).trans u5).trans (Ext.push _ _).upd).trans u6
    have step : ∀ v : Int, 1 ≤ v → v ≤ 10 ^ 30 → isLst (.loc S1.length) T3 = true ∧ optP (ixD (.str pair) (.int ((at_ + (i : Nat)) % 2)) T3) fun z_1 => WR (mtD .append (.loc S1.length) [.tup [z_1, .int v]] T3)
        (fun x S1_3 => ∃ x, S1_3[S1.length]? = some (.lst (List.map encP x)) ∧ x.length = i + 1 ∧ Src3 S1_3 n (c + 2 + 3 * ((i : Nat) + 1)) ∧ Upd n S S1_3 ∧ BndR 1000000000000000000000000000000 x ∧ AltR a b at_ x) fun c q S1 => E c q S1 := by
      intro v v1 v2
      have fin : ∀ z, z = (if (at_ + (i : Nat)) % 2 = 0 then a else b) → WR (mtD .append (.loc S1.length) [.tup [.str z, .int v]] T3)
        (fun x S1_3 => ∃ x, S1_3[S1.length]? = some (.lst (List.map encP x)) ∧ x.length = i + 1 ∧ Src3 S1_3 n (c + 2 + 3 * ((i : Nat) + 1)) ∧ Upd n S S1_3 ∧ BndR 1000000000000000000000000000000 x ∧ AltR a b at_ x) fun c q S1 => E c q S1 := by
        intro z hz
        rw [mt_append F4]
        refine ⟨by rw [List.length_map, hl]; unfold sizeLine; omega, l ++ [(z, v)], by rw [get_set F4, List.map_append]; rfl, by simp [hl], ?_, U6.setNew u1.1, hb.add v1 v2, ha.add (by rw [hl]; exact hz)⟩
        exact (s6.le (by omega)).of_ne (fun j so hj e => by rw [List.getElem?_set_ne (Ne.symm hj)]; exact e) nq
      refine ⟨isLst_at F4, ?_⟩
      rcases (by omega : (at_ + (i : Nat)) % 2 = 0 ∨ (at_ + (i : Nat)) % 2 = 1) with e | e
      · rw [e, hp0, optP_some]
        exact fin a (by rw [if_pos e])
      · rw [e, hp1, optP_some]
        exact fin b (by rw [if_neg (by omega)])
    rw [L3]
    rcases (by omega : x3 = 0 ∨ x3 = 1 ∨ x3 = 2) with rfl | rfl | rfl
    · simpa using step 1 (by decide) (by decide)
    · simpa using step (1 + x1) (by omega) (by omega)
    · simpa using step (1 + x2) (by omega) (by omega)
  · rintro ρ S3 ⟨y, z, l, rfl, F3, hl, s3, u3, hb, ha⟩
    simp
    rw [lst_at F3, optP_some]
    refine hQ l S3 ?_ (by omega) hb (s3.le (by omega)) u3
    unfold okR
    rw [ascR_alt hab ha, Bool.and_true, Bool.and_eq_true]
    refine ⟨by cases l <;> simp_all <;> omega, ?_⟩
    rw [List.all_eq_true]
    intro p hp
    obtain ⟨j, hj⟩ := List.getElem?_of_mem hp
    have e := ha j p hj
    have h1 := (hb p hp).1
    rw [e]
    split <;> simp [h1]
theorem w_town {n : Nat} {c mo wi : Int} (h : Src3 S n c) (hc : c < 2 ^ 58) (m0 : 0 < mo) (m1 : mo ≤ 20) (w0 : 0 < wi) (w1 : wi ≤ 10 ^ 30)
    (hQ : ∀ a b S', TownB a b → Src3 S' n (c + 124) → Upd n S S' → Q (encC a b) S') : WR (CF (k + 3) f__law_town [.loc n, .int mo, .int wi] S) Q E := by
  show WR (endR (run W (CF (k + 2)) G bd__law_town [some (.loc n), some (.int mo), some (.int wi)] S)) Q E
  rw [w_end]
  unfold bd__law_town
  simp
  refine w_runs (a := "E") (b := "W") (fun S => ixS0.1) (fun S => ixS0.2.1) (by decide) h (by omega) m0 m1 w0 w1 fun a S1 oa la ba s1 u1 => ?_
  refine w_runs (a := "N") (b := "S") (fun S => ixS0.2.2.1) (fun S => ixS0.2.2.2) (by decide) s1 (by omega) m0 m1 w0 w1 fun b S2 ob lb bb s2 u2 => ?_
  exact hQ a b S2 ⟨oa, ob, la, lb, ba, bb⟩ (s2.le (by omega)) (u1.trans u2)
theorem w_size {l : Runs} (h : Q (.int (total l)) S) : WR (CF (k + 1) f__law_size [encR l] S) Q E := by
  show WR (endR (run W (CF k) G bd__law_size [some (encR l), none, none, none] S)) Q E
  rw [w_end]
  unfold bd__law_size encR
  simp
  refine ws_for_map (m := l) (f := encP) (fun r ρ S1 => ∃ (f : Int) (a b : Option D), ρ = [some (.tup (l.map encP)), some (.int f), a, b] ∧ S1 = S ∧ f + total r = total l) ?_ ?_ ⟨0, none, none, rfl, rfl, by omega⟩
  · rintro ⟨d, c⟩ r ρ S1 ⟨f, a, b, rfl, rfl, e⟩
    refine ⟨_, rfl, ?_⟩
    simp [encP]
    rw [total_cons] at e
    simpa [Int.add_assoc] using e
  · rintro ρ S1 ⟨f, a, b, rfl, rfl, e⟩
    have e' : f = total l := by simpa [total] using e
    subst e'
    exact h
def isStreetD (a b : Runs) (v : D) : Bool := match v with
  | .tup [.str d, .int n] => (d == "row" || d == "column") && (decide (0 ≤ n) && decide (n < total (if d = "column" then b else a)))
  | _ => false
theorem isStreetD_len {a b : Runs} {ds : List D} (h : ds.length ≠ 2) : isStreetD a b (.tup ds) = false := by
  unfold isStreetD
  split
  · rename_i e
    cases e
    exact absurd rfl h
  · rfl
theorem w_is_street {a b : Runs} (ha : a.length ≤ sizeLine) (hb : b.length ≤ sizeLine) (hv : Nice 2 v S) (h : ∀ S', Ext S S' → Q (.bl (isStreetD a b v)) S') : WR (CF (k + 2) f_is_street [encC a b, v] S) Q E := by
  show WR (endR (run W (CF (k + 1)) G bd_is_street [some (encC a b), some v] S)) Q E
  rw [w_end]
  unfold bd_is_street encC
  simp [G, gvs]
  rw [isi_tuple hv.1]
  cases v with
  | tup ds =>
    obtain ⟨hl, hn⟩ := hv.2 ds rfl
    simp only [isTB, l_tup, optP_some, if_true]
    refine ite2 (fun e => ?_) (fun e => ?_)
    · obtain ⟨x, y, rfl⟩ := two_of e
      have hx := hn x (by simp)
      have hy := hn y (by simp)
      simp [isi_str hx.1]
      cases x with
      | str d =>
        simp [isSB, inSeq2]
        refine ite2 (fun e1 => ?_) (fun e1 => ?_)
        · refine w_is_integer hy.1 ?_
          have e1' : (d == "row" || d == "column") = true := by simpa using e1
          simp
          refine ite2 (fun e2 => ?_) (fun e2 => ?_)
          · obtain ⟨n, rfl⟩ : ∃ n, y = .int n := by
              unfold isIntD at e2
              split at e2
              · exact ⟨_, rfl⟩
              · cases e2
            have n0 : 0 ≤ n := of_decide_eq_true e2
            by_cases c : d = "column"
            · rw [if_pos c, at1, optP_some]
              refine w_count_streets hb fun S2 x2 => ?_
              have q := h S2 x2
              have ez : isStreetD a b (.tup [.str d, .int n]) = decide (n < total b) := by
                simp only [isStreetD, e1', n0, if_pos c, decide_true, Bool.true_and]
              rw [ez] at q
              simpa using q
            · rw [if_neg c, at0, optP_some]
              refine w_count_streets ha fun S2 x2 => ?_
              have q := h S2 x2
              have ez : isStreetD a b (.tup [.str d, .int n]) = decide (n < total a) := by
                simp only [isStreetD, e1', n0, if_neg c, decide_true, Bool.true_and]
              rw [ez] at q
              simpa using q
          · have q := h S (.refl S)
            have ez : isStreetD a b (.tup [.str d, y]) = false := by
              unfold isStreetD
              split
              · rename_i d' n' e3
                cases e3
                have : isIntD (.int n') 0 = decide (0 ≤ n') := rfl
                rw [this] at e2
                simp only [Bool.and_eq_false_imp]
                intro _
                have : decide (0 ≤ n') = false := by simpa using e2
                rw [this]
                intro z
                cases z
              · rfl
            rw [ez] at q
            exact q
        · have q := h S (.refl S)
          have e1' : (d == "row" || d == "column") = false := by simpa using e1
          have ez : isStreetD a b (.tup [.str d, y]) = false := by
            unfold isStreetD
            split
            · rename_i d' n' e3
              cases e3
              rw [e1']
              rfl
            · rfl
          rw [ez] at q
          rw [if_neg e1]
          exact q
      | _ => exact h S (.refl S)
    · rw [if_neg e]
      have q := h S (.refl S)
      rw [isStreetD_len (fun z => e (by rw [z]; rfl))] at q
      exact q
  | _ => exact h S (.refl S)
theorem w_check_street {a b : Runs} (ha : a.length ≤ sizeLine) (hb : b.length ≤ sizeLine) (hv : Nice 2 v S) (h1 : isStreetD a b v = true → ∀ S', Ext S S' → Q .non S') (h2 : isStreetD a b v = false → ∀ S', Ext S S' → E 2 [] S') : WR (CF (k + 3) f_check_street [encC a b, v] S) Q E := by
  show WR (endR (run W (CF (k + 2)) G bd_check_street [some (encC a b), some v] S)) Q E
  rw [w_end]
  unfold bd_check_street
  simp
  refine w_is_street ha hb hv fun S1 x1 => ?_
  cases hc : isStreetD a b v with
  | true => simpa using h1 hc S1 x1
  | false => simpa using h2 hc S1 x1
theorem w_street_direction {a b : Runs} (t : Town a b) (hv : ∀ S, Nice 2 v S) (h1 : ∀ d n r, v = .tup [.str d, .int n] → isStreetD a b v = true → runAt (if d = "column" then b else a) n 0 = some r → ∀ S', Ext S S' → Q (.str r.1) S') (h2 : isStreetD a b v = false → ∀ S', Ext S S' → E 2 [] S') :
    WR (CF (k + 6) f_street_direction [encC a b, v] S) Q E := by
  show WR (endR (run W (CF (k + 5)) G bd_street_direction [some (encC a b), some v] S)) Q E
  rw [w_end]
  unfold bd_street_direction
  simp
  refine w_check_city t.nice (fun _ S1 x1 => ?_) (fun z => by rw [t.city] at z; cases z)
  refine w_check_street t.la t.lb (hv S1) (fun hs S2 x2 => ?_) (fun hs S2 x2 => h2 hs S2 (x1.trans x2))
  have hs0 := hs
  unfold isStreetD at hs
  split at hs
  · rename_i d n
    simp only [Bool.and_eq_true, decide_eq_true_eq] at hs
    obtain ⟨_, n0, n1⟩ := hs
    obtain ⟨r, hr⟩ := runAt_some (l := if d = "column" then b else a) (n := n) (f := 0) n0 (by omega)
    refine w_direction_of hr ?_
    exact h1 d n r rfl hs0 hr S2 (x1.trans x2)
  · cases hs
theorem w_grid_size {a b : Runs} (t : Town a b) (h : ∀ S', Ext S S' → Q (.tup [.int (total b), .int (total a)]) S') : WR (CF (k + 6) f_grid_size [encC a b] S) Q E := by
  show WR (endR (run W (CF (k + 5)) G bd_grid_size [some (encC a b)] S)) Q E
  rw [w_end]
  unfold bd_grid_size
  simp
  refine w_check_city t.nice (fun _ S1 x1 => ?_) (fun z => by rw [t.city] at z; cases z)
  simp [encC]
  refine w_count_streets t.lb fun S2 x2 => ?_
  refine w_count_streets t.la fun S3 x3 => ?_
  exact h S3 ((x1.trans x2).trans x3)
theorem w_is_point {a b : Runs} (t : Town a b) (hv : ∀ S, Nice 2 v S) (h : ∀ S', Ext S S' → Q (.bl (isPlaceD a b v)) S') : WR (CF (k + 6) f_is_point [encC a b, v] S) Q E := by
  show WR (endR (run W (CF (k + 5)) G bd_is_point [some (encC a b), some v] S)) Q E
  rw [w_end]
  unfold bd_is_point
  simp
  refine w_check_city t.nice (fun _ S1 x1 => ?_) (fun z => by rw [t.city] at z; cases z)
  refine w_is_place t.la t.lb (hv S1) fun S2 x2 => ?_
  exact h S2 (x1.trans x2)
end
end CC
namespace CC
open PySem PySem.Spec PyProof.Rows L2
section
variable {k : Nat} {v : D} {S : Sto} {Q : D → Sto → Prop} {E : Nat → List D → Sto → Prop}
def sg (l : Runs) (n : Int) : Str := if n < 0 then "" else signL l n
theorem signL_big : ∀ {l : Runs} {n : Int}, (∀ p ∈ l, 1 ≤ p.2) → total l ≤ n → signL l n = ""
  | [], n, _, _ => rfl
  | (d, c) :: l, n, hp, h => by
    have hc : 1 ≤ c := hp (d, c) List.mem_cons_self
    have hl : ∀ p ∈ l, 1 ≤ p.2 := fun p z => hp p (List.mem_cons_of_mem _ z)
    have h0 : 0 ≤ total l := by
      clear h hp
      induction l with
      | nil => simp [total]
      | cons p l ih =>
        rw [total_cons]
        have := hl p List.mem_cons_self
        have := ih fun q z => hl q (List.mem_cons_of_mem _ z)
        omega
    rw [total_cons] at h
    have h' : c + total l ≤ n := h
    rw [signL, if_neg (by omega)]
    exact signL_big hl (by omega)
theorem w_sign2 {l : Runs} {n : Int} (h : Q (.str (sg l n)) S) : WR (CF (k + 1) f__law_sign [encR l, .int n] S) Q E := by
  show WR (endR (run W (CF k) G bd__law_sign [some (encR l), some (.int n), none, none, none] S)) Q E
  rw [w_end]
  unfold bd__law_sign encR
  simp
  unfold sg at h
  refine ite2 (fun c => ?_) (fun c => ?_)
  · rw [if_pos c] at h
    exact h
  · rw [if_neg c] at h
    refine ws_for_map (m := l) (f := encP) (fun r ρ S1 => ∃ (f : Int) (a b : Option D), ρ = [some (.tup (l.map encP)), some (.int n), some (.int f), a, b] ∧ S1 = S ∧ signL r f = signL l n) ?_ ?_ ⟨n, none, none, rfl, rfl, rfl⟩
    · rintro ⟨d, c⟩ r ρ S1 ⟨f, a, b, rfl, rfl, e⟩
      refine ⟨_, rfl, ?_⟩
      simp [encP]
      rw [signL] at e
      refine ite2 (fun z => ?_) (fun z => ?_)
      · rw [if_pos z] at e
        rw [← e] at h
        exact h
      · rw [if_neg z] at e
        exact e
    · rintro ρ S1 ⟨f, a, b, rfl, rfl, e⟩
      rw [← e] at h
      exact h
theorem nice_st {w : Str} {n : Int} : Nice 2 (.tup [.str w, .int n]) S := ⟨rfl, fun ds e => by
  cases e
  refine ⟨by simp [sizeLine], fun d hd => ?_⟩
  simp at hd
  rcases hd with rfl | rfl
  · exact ⟨rfl, fun _ e => nomatch e⟩
  · exact ⟨rfl, fun _ e => nomatch e⟩⟩
theorem w_told {a b : Runs} {w : Str} {n : Int} {named : Bool} (t : Town a b) (hw : w = "row" ∨ w = "column") (h : ∀ S', Ext S S' → Q (.str (sg (if w = "column" then b else a) n)) S') : WR (CF (k + 7) f__law_told [encC a b, .str w, .int n, .bl named] S) Q E := by
  show WR (endR (run W (CF (k + 6)) G bd__law_told [some (encC a b), some (.str w), some (.int n), some (.bl named), none] S)) Q E
  rw [w_end]
  unfold bd__law_told
  have hl : ∀ p ∈ (if w = "column" then b else a), 1 ≤ p.2 := by
    intro p hp
    by_cases c : w = "column"
    · rw [if_pos c] at hp
      exact (okR_mem t.ob hp).2
    · rw [if_neg c] at hp
      exact (okR_mem t.oa hp).2
  have good : ∀ (r : Str × Int × Int), isStreetD a b (.tup [.str w, .int n]) = true → runAt (if w = "column" then b else a) n 0 = some r → r.1 = sg (if w = "column" then b else a) n := by
    intro r hs hr
    simp only [isStreetD, Bool.and_eq_true, decide_eq_true_eq] at hs
    have e : signAt (if w = "column" then b else a) n = r.1 := by simp [signAt, hr]
    have e2 : sg (if w = "column" then b else a) n = signL (if w = "column" then b else a) n := if_neg (by omega)
    rw [e2, ← e, signAt_eq]
  have bad : isStreetD a b (.tup [.str w, .int n]) = false → sg (if w = "column" then b else a) n = "" := by
    intro hs
    unfold sg
    by_cases c : n < 0
    · rw [if_pos c]
    · rw [if_neg c]
      refine signL_big hl ?_
      have hw' : (w == "row" || w == "column") = true := by rcases hw with rfl | rfl <;> decide +kernel
      simp only [isStreetD, hw', Bool.true_and] at hs
      have c' : decide (0 ≤ n) = true := decide_eq_true (by omega)
      rw [c', Bool.true_and] at hs
      have := of_decide_eq_false hs
      omega
  simp [permL]
  have fin : WR (CF (k + 6) f_street_direction [encC a b, .tup [.str w, .int n]] S) (fun d S1 => Q d S1) (fun c q S1 => selO (List.lookup c [(0, false), (1, false), (2, true)]) (Q (.str "") S1) (E c q S1)) := by
    refine w_street_direction t (fun S => nice_st) (fun d m r e hs hr S1 x1 => ?_) (fun hs S1 x1 => ?_)
    · cases e
      rw [good r hs hr]
      exact h S1 x1
    · have q := h S1 x1
      rw [bad hs] at q
      exact q
  cases named <;> exact fin
def IntsAt (S : Sto) (q : Nat) : Prop := ∃ ns : List Int, S[q]? = some (.lst (ns.map D.int)) ∧ ns.length ≤ 200
theorem w_numbers2 {n : Nat} {c : Int} {l : Runs} {A B : Str} (h : Src3 S n c) (hc : c < 2 ^ 58) (ho : okR A B l = true) (hl : l.length ≤ 20) (hb : BndR (10 ^ 30) l)
    (hQ : ∀ q S', IntsAt S' q → S.length ≤ q → Src3 S' n (c + 3) → Upd n S S' → Q (.loc q) S') : WR (CF (k + 2) f__law_numbers [.loc n, encR l] S) Q E := by
  show WR (endR (run W (CF (k + 1)) G bd__law_numbers [some (.loc n), some (encR l), none, none, none, none, none] S)) Q E
  rw [w_end]
  unfold bd__law_numbers encR
  have tp := total_pos ho
  have hn := h.lt
  have tot : total l < 2 ^ 200 := by
    have := total_le (by decide) hb
    have e : (l.length : Int) * 10 ^ 30 ≤ 20 * 10 ^ 30 := by omega
    omega
  obtain ⟨J, hJ⟩ : ∃ J : Env → Sto → Prop, ∀ ρ S1, J ρ S1 ↔ ∃ (q : Nat) (ns : List Int) (u v w : Option D), ρ = [some (.loc n), some (encR l), some (.int (total l)), some (.loc q), u, v, w] ∧ Ext S S1 ∧ S.length ≤ q ∧ S1[q]? = some (.lst (ns.map D.int)) ∧ ns.length = 4 * l.length := ⟨_, fun _ _ => Iff.rfl⟩
  refine s_seq (fun ρ S1 => ρ = [some (.loc n), some (encR l), some (.int 0), some (.loc S.length), none, none, none] ∧ S1 = S ++ [.lst []]) ?_ ?_
  · simp [bindT, bindL]
    rfl
  rintro ρ S1 ⟨rfl, rfl⟩
  refine s_seq J ?_ ?_
  · simp [encR]
    obtain ⟨I, hI⟩ : ∃ I : Runs → Env → Sto → Prop, ∀ r ρ S1, I r ρ S1 ↔ ∃ (f : Int) (q : Nat) (ns : List Int) (u v w : Option D), ρ = [some (.loc n), some (.tup (l.map encP)), some (.int f), some (.loc q), u, v, w] ∧ Ext S S1 ∧ S.length ≤ q ∧ S1[q]? = some (.lst (ns.map D.int)) ∧ ns.length + 4 * r.length = 4 * l.length ∧ f + total r = total l := ⟨_, fun _ _ _ => Iff.rfl⟩
    refine ws_for_map (m := l) (f := encP) I ?_ ?_ ((hI _ _ _).mpr ⟨0, S.length, [], none, none, none, rfl, .push _ _, Nat.le_refl _, get_new, by simp, by omega⟩)
    · rintro ⟨d, cc⟩ r ρ S1 hz
      obtain ⟨f, q, ns, u, v, w, rfl, x1, hq, F, hln, ht⟩ := (hI _ _ _).mp hz
      refine ⟨_, rfl, ?_⟩
      rw [total_cons] at ht
      have ht' : f + (cc + total r) = total l := ht
      simp only [List.length_cons] at hln
      have hdv : divOk 2 = true := by decide +kernel
      simp [encP, hdv]
      rw [lst_add ((Ext.push _ _).get F) get_new (by simp only [List.length_map, List.length_cons, List.length_nil]; unfold sizeLine; omega)]
      refine (hI _ _ _).mpr ⟨f + cc, _, ns ++ [f - 1, f, f + 1, f + cc / 2], _, _, _, rfl, (x1.to _).to _, by have := x1.le; simp; omega, ?_, ?_, by omega⟩
      · rw [get_new, List.map_append]
        rfl
      · simp only [List.length_append, List.length_cons, List.length_nil]
        omega
    · intro ρ S1 hz
      obtain ⟨f, q, ns, u, v, w, rfl, x1, hq, F, hln, ht⟩ := (hI _ _ _).mp hz
      have e' : f = total l := by simpa [total] using ht
      subst e'
      exact (hJ _ _).mpr ⟨q, ns, u, v, w, rfl, x1, hq, F, by simpa using hln⟩
  intro ρ S1 hj
  obtain ⟨q, ns, u, v, w, rfl, x1, hq, F, hln⟩ := (hJ ρ S1).mp hj
  refine s_seq (fun ρ S2 => ∃ q2 : Nat, ∃ ms : List Int, ρ = [some (.loc n), some (encR l), some (.int (total l)), some (.loc q2), u, v, w] ∧ Ext S S2 ∧ S.length ≤ q2 ∧ S2[q2]? = some (.lst (ms.map D.int)) ∧ ms.length ≤ 90) ?_ ?_
  · simp
    rw [lst_add ((Ext.push _ _).get F) get_new (by simp only [List.length_map, List.length_cons, List.length_nil]; unfold sizeLine; omega)]
    refine ⟨_, rfl, (x1.to _).to _, by have := x1.le; simp; omega, ns ++ [total l - 2, total l - 1, total l, total l + 1], ?_, ?_⟩
    · rw [get_new, List.map_append]
      rfl
    · simp only [List.length_append, List.length_cons, List.length_nil]
      omega
  rintro ρ S2 ⟨q2, ms, rfl, x2, hq2, F2, hm⟩
  simp
  refine ⟨small62_of (by decide) (by decide), ?_⟩
  refine wp_lcl 3 (fun i acc S3 => ∃ ms2 : List Int, acc = ms2.map D.int ∧ ms2.length = i ∧ Upd n S2 S3 ∧ Src3 S3 n (c + (i : Nat))) ?_ ?_ _ 0 [] _ (by decide) (by show 3 < 0 + ((rangeD 0 3).length + 1); rw [rangeD_len]; omega) ⟨[], rfl, rfl, .refl _ _, by simpa using h.ext x2⟩
  · rintro i acc S3 hi ⟨ms2, rfl, hm2, u3, s3⟩
    refine ⟨_, _, by show some ((rangeD 0 3)[i]?) = _; rw [rd_get hi], rfl, ?_⟩
    simp [wipeE]
    refine w_draw s3 (by omega) tp tot fun r S4 r0 r1 s4 u4 => ?_
    exact ⟨by rw [hm2]; unfold sizeLine; omega, ms2 ++ [r], by simp, by simp [hm2], u3.trans u4, s4.le (by omega)⟩
  · rintro acc S3 ⟨ms2, rfl, hm2, u3, s3⟩
    refine ⟨by show some ((rangeD 0 3)[3]?) = _; rw [List.getElem?_eq_none (by rw [rangeD_len]; omega)], ?_⟩
    have F3 : S3[q2]? = some (.lst (ms.map D.int)) := u3.2 _ _ (by omega) F2
    rw [lst_add ((Ext.push _ _).get F3) get_new (by simp only [List.length_map]; unfold sizeLine; omega)]
    have l3 := u3.1
    have l2 := x2.le
    refine hQ _ _ ⟨ms ++ ms2, by rw [get_new, List.map_append], by simp [hm2]; omega⟩ ?_ (((s3.le (by omega)).ext (.push _ _)).ext (.push _ _)) ((x2.upd.trans u3).trans ((Ext.push _ _).to _).upd)
    simp only [List.length_append, List.length_cons, List.length_nil]
    omega
theorem tup_eq {x y x' y' : Int} {S : Sto} : cmpD .Eq (.tup [.int x, .int y]) (.tup [.int x', .int y']) S = some (decide (x = x') && decide (y = y')) ∧ cmpD .NotEq (.tup [.int x, .int y]) (.tup [.int x', .int y']) S = some (!(decide (x = x') && decide (y = y'))) := by
  have e : eqD (.tup [.int x, .int y]) (.tup [.int x', .int y']) S = some (decide (x = x') && decide (y = y')) := by
    have h1 : toP S 50 (.tup [.int x, .int y]) = some (pPt (x, y)) := toP_encPt (n := 49) (p := (x, y))
    have h2 : toP S 50 (.tup [.int x', .int y']) = some (pPt (x', y')) := toP_encPt (n := 49) (p := (x', y'))
    unfold eqD
    rw [h1, h2]
    have s1 : ∀ p : Int × Int, SeqAt.shaped (pPt p) = true := fun p => rfl
    simp only [Option.bind_some, s1, Bool.and_self, if_true]
    congr 1
    simp [pPt, PyData.eqv, PyData.eqvAll]
    rfl
  refine ⟨e, ?_⟩
  show (qEq (.tup [.int x, .int y]) (.tup [.int x', .int y']) S).map (!·) = _
  have e' : qEq (.tup [.int x, .int y]) (.tup [.int x', .int y']) S = some (decide (x = x') && decide (y = y')) := e
  rw [e']
  rfl
theorem rep_bl {x : Bool} {S : Sto} : repD (.bl x) S = some (.str (PyData.bool x).shown) := by
  cases x <;> rfl
theorem sl_loc {n : Nat} {ds : List D} {lo hi : Option Int} {S : Sto} {Q : D → Sto → Prop} {E : Nat → List D → Sto → Prop} (h : lstAt S n = some ds) : WR (slD (.loc n) lo hi S) Q E = Q (.loc S.length) (S ++ [.lst (cut ds lo hi)]) := by
  show WR (match lstAt S n with
    | some ds => mk (.lst (cut ds lo hi)) S
    | none => .bad) Q E = _
  rw [h]
  rfl
theorem cut_map {α β : Type} {f : α → β} {l : List α} {lo hi : Option Int} : cut (l.map f) lo hi = (cut l lo hi).map f := by
  unfold cut
  rw [List.length_map, List.map_take, List.map_drop]
structure Held (S : Sto) (ns : List Int) (n : Nat) (c : Int) (q9 qa qb : Nat) (as bs : List Int) : Prop where
  scr : lstAt S 0 = some (ns.map D.int)
  src : Src3 S n c
  spots : lstAt S q9 = some [.loc qa, .loc qb]
  at_a : lstAt S qa = some (as.map D.int)
  at_b : lstAt S qb = some (bs.map D.int)
theorem Held.ext {S T : Sto} {ns : List Int} {n : Nat} {c : Int} {q9 qa qb : Nat} {as bs : List Int} (h : Held S ns n c q9 qa qb as bs) (x : Ext S T) : Held T ns n c q9 qa qb as bs :=
  ⟨x.lst h.scr, h.src.ext x, x.lst h.spots, x.lst h.at_a, x.lst h.at_b⟩
theorem law_thm : ∀ ns : List Int, ns.length ≤ 63 → ∃ S', CF 8 f_law [.loc 0] [.frz (ns.map D.int)] = .ok (.bl true) S' := by
  intro ns hns
  suffices h : WR (CF 8 f_law [.loc 0] [.frz (ns.map D.int)]) (fun d _ => d = .bl true) Eo by
    cases q : CF 8 f_law [.loc 0] [.frz (ns.map D.int)] with
    | ok a S => rw [q] at h; exact ⟨S, by rw [show a = .bl true from h]⟩
    | exc _ _ _ => rw [q] at h; exact h.elim
    | bad => rw [q] at h; exact h.elim
  have hF : lstAt ([.frz (ns.map D.int)] : Sto) 0 = some (ns.map D.int) := rfl
  have hL : 0 < ([.frz (ns.map D.int)] : Sto).length := Nat.one_pos
  generalize ([.frz (ns.map D.int)] : Sto) = S at hF hL
  show WR (endR (run W (CF 7) G bd_law [some (.loc 0), none, none, none, none, none, none, none, none, none, none, none, none, none, none, none] S)) _ _
  rw [w_end]
  unfold bd_law
  obtain ⟨J0, hJ0⟩ : ∃ J0 : Env → Sto → Prop, ∀ ρ S1, J0 ρ S1 ↔ ∃ a1 a2 a3 a4 a5 a6 a7 a8 a9 a10 a11 a12 a13 a14 a15 : Option D, ρ = [some (.loc 0), a1, a2, a3, a4, a5, a6, a7, a8, a9, a10, a11, a12, a13, a14, a15] ∧ lstAt S1 0 = some (ns.map D.int) ∧ 0 < S1.length := ⟨_, fun _ _ => Iff.rfl⟩
  refine s_seq J0 ?_ ?_
  · rw [s_for, w_rng1]
    simp [hF]
    refine ⟨small62_of (by omega) (by omega), ?_⟩
    refine ws_range (fun _ => J0) ?_ (fun _ _ z => z) ((hJ0 _ _).mpr ⟨_, _, _, _, _, _, _, _, _, _, _, _, _, _, _, rfl, hF, hL⟩)
    intro i ρ S1 hi hz
    obtain ⟨a1, a2, a3, a4, a5, a6, a7, a8, a9, a10, a11, a12, a13, a14, a15, rfl, F1, L1⟩ := (hJ0 _ _).mp hz
    have hi6 : i < 64 := by omega
    refine s_seq (fun ρ S2 => ∃ n : Nat, ρ = [some (.loc 0), some (.int (i : Nat)), some (.loc n), a3, a4, a5, a6, a7, a8, a9, a10, a11, a12, a13, a14, a15] ∧ lstAt S2 0 = some (ns.map D.int) ∧ 0 < n ∧ Src3 S2 n 0) ?_ ?_
    · simp
      refine w_source F1 hi6 fun S2 s2 x2 _ => ?_
      exact ⟨S1.length, rfl, x2.lst F1, L1, s2⟩
    rintro ρ S2 ⟨n, rfl, F2, n0, s2⟩
    simp
    refine ⟨small62_of (by decide) (by decide), ?_⟩
    obtain ⟨I2, hI2⟩ : ∃ I2 : Nat → Env → Sto → Prop, ∀ t ρ S3, I2 t ρ S3 ↔ ∃ a3 a4 a5 a6 a7 a8 a9 a10 a11 a12 a13 a14 a15 : Option D, ρ = [some (.loc 0), some (.int (i : Nat)), some (.loc n), a3, a4, a5, a6, a7, a8, a9, a10, a11, a12, a13, a14, a15] ∧ lstAt S3 0 = some (ns.map D.int) ∧ Src3 S3 n (5000 * (t : Nat)) := ⟨_, fun _ _ _ => Iff.rfl⟩
    refine ws_range I2 ?_ ?_ ((hI2 _ _ _).mpr ⟨_, _, _, _, _, _, _, _, _, _, _, _, _, rfl, F2, s2.le (by omega)⟩)
    · intro t ρ S3 ht hz
      obtain ⟨a3, a4, a5, a6, a7, a8, a9, a10, a11, a12, a13, a14, a15, rfl, F3, s3⟩ := (hI2 _ _ _).mp hz
      have ht2 : t < 2 := ht
      refine s_seq (fun ρ S4 => ∃ mo : Int, ρ = [some (.loc 0), some (.int (i : Nat)), some (.loc n), some (.int (t : Nat)), some (.int mo), a5, a6, a7, a8, a9, a10, a11, a12, a13, a14, a15] ∧ (mo = 3 ∨ mo = 20) ∧ lstAt S4 0 = some (ns.map D.int) ∧ Src3 S4 n (5000 * (t : Nat) + 1)) ?_ ?_
      · simp
        refine w_draw (s3.ext (.push _ _)) (by omega) (by decide) (by decide) fun r1 T1 r10 r11 s4 u4 => ?_
        obtain ⟨z1, g1, hz1⟩ := pick2 (u4.lst (by have := s3.lt; omega) lst_new) r10 r11
        rw [g1, optP_some]
        exact ⟨z1, rfl, hz1, u4.lst (by omega) ((Ext.push _ _).lst F3), s4⟩
      rintro ρ S4 ⟨mo, rfl, hmo, F4, s4⟩
      obtain ⟨J1, hJ1⟩ : ∃ J1 : Env → Sto → Prop, ∀ ρ S5, J1 ρ S5 ↔ ∃ a b, ρ = [some (.loc 0), some (.int (i : Nat)), some (.loc n), some (.int (t : Nat)), some (.int mo), some (encC a b), a6, a7, a8, a9, a10, a11, a12, a13, a14, a15] ∧ TownB a b ∧ lstAt S5 0 = some (ns.map D.int) ∧ Src3 S5 n (5000 * (t : Nat) + 126) := ⟨_, fun _ _ => Iff.rfl⟩
      refine s_seq J1 ?_ ?_
      · simp
        refine ⟨by decide +kernel, ?_⟩
        refine w_draw (s4.ext (.push _ _)) (by omega) (by decide) (by decide) fun r2 T2 r20 r21 s5 u5 => ?_
        obtain ⟨z2, g2, hz2⟩ := pick2 (u5.lst (by have := s4.lt; omega) lst_new) r20 r21
        rw [g2, optP_some]
        refine w_town s5 (by omega) (by omega) (by omega) (by omega) (by omega) fun a b S5 tb s6 u6 => ?_
        exact (hJ1 _ _).mpr ⟨a, b, rfl, tb, u6.lst (by omega) (u5.lst (by omega) ((Ext.push _ _).lst F4)), s6.le (by omega)⟩
      intro ρ S5 hj
      obtain ⟨a, b, rfl, tb, F5, s5⟩ := (hJ1 _ _).mp hj
      have tw := tb.town
      refine s_seq (fun ρ S6 => ρ = [some (.loc 0), some (.int (i : Nat)), some (.loc n), some (.int (t : Nat)), some (.int mo), some (encC a b), some (.str (pC a b).shown), a7, a8, a9, a10, a11, a12, a13, a14, a15] ∧ S6 = S5) ?_ ?_
      · simp [rep_town tb]
      rintro ρ S6 ⟨rfl, rfl⟩
      refine s_seq (fun ρ S7 => ρ = [some (.loc 0), some (.int (i : Nat)), some (.loc n), some (.int (t : Nat)), some (.int mo), some (encC a b), some (.str (pC a b).shown), some (.int (total a)), some (.int (total b)), a9, a10, a11, a12, a13, a14, a15] ∧ S7 = S6) ?_ ?_
      · simp [encC]
        refine w_size ?_
        refine w_size ?_
        exact ⟨rfl, rfl⟩
      rintro ρ S7 ⟨rfl, rfl⟩
      refine s_seq (fun ρ S8 => ρ = [some (.loc 0), some (.int (i : Nat)), some (.loc n), some (.int (t : Nat)), some (.int mo), some (encC a b), some (.str (pC a b).shown), some (.int (total a)), some (.int (total b)), a9, a10, a11, a12, a13, a14, a15] ∧ Ext S7 S8) ?_ ?_
      · simp
        refine w_grid_size tw fun S8 x8 => ?_
        rw [tup_eq.2]
        simp
        refine w_grid_size tw fun S9 x9 => ?_
        rw [tup_eq.2]
        simp
        exact x8.trans x9
      rintro ρ S8 ⟨rfl, x8⟩
      have s8 := s5.ext x8
      have F8 := x8.lst F5
      obtain ⟨J2, hJ2⟩ : ∃ J2 : Env → Sto → Prop, ∀ ρ S9, J2 ρ S9 ↔ ∃ (q9 qa qb : Nat) (as bs : List Int), ρ = [some (.loc 0), some (.int (i : Nat)), some (.loc n), some (.int (t : Nat)), some (.int mo), some (encC a b), some (.str (pC a b).shown), some (.int (total a)), some (.int (total b)), some (.loc q9), a10, a11, a12, a13, a14, a15] ∧ Held S9 ns n (5000 * (t : Nat) + 132) q9 qa qb as bs := ⟨_, fun _ _ => Iff.rfl⟩
      refine s_seq J2 ?_ ?_
      · simp [encC]
        refine w_numbers2 s8 (by omega) tb.oa tb.la tb.ba fun qa S9 ⟨as, Fa, la⟩ hqa s9 u9 => ?_
        refine w_numbers2 s9 (by omega) tb.ob tb.lb tb.bb fun qb T1 ⟨bs, Fb, lb⟩ hqb t1 v1 => ?_
        have m8 := s8.lt
        refine (hJ2 _ _).mpr ⟨T1.length, qa, qb, as, bs, rfl, ?_, (t1.le (by omega)).ext (.push _ _), lst_new, (Ext.push _ _).lst (v1.lst (by omega) (lst_at Fa)), (Ext.push _ _).lst (lst_at Fb)⟩
        exact (Ext.push _ _).lst (v1.lst (by omega) (u9.lst (by omega) F8))
      intro ρ S9 hj
      obtain ⟨q9, qa, qb, as, bs, rfl, H9⟩ := (hJ2 _ _).mp hj
      obtain ⟨J3, hJ3⟩ : ∃ J3 : Env → Sto → Prop, ∀ ρ S9, J3 ρ S9 ↔ ∃ a10 a11 a12 a13 a14 a15 : Option D, ρ = [some (.loc 0), some (.int (i : Nat)), some (.loc n), some (.int (t : Nat)), some (.int mo), some (encC a b), some (.str (pC a b).shown), some (.int (total a)), some (.int (total b)), some (.loc q9), a10, a11, a12, a13, a14, a15] ∧ Held S9 ns n (5000 * (t : Nat) + 132) q9 qa qb as bs := ⟨_, fun _ _ => Iff.rfl⟩
      refine s_seq J3 ?_ ?_
      · -- the streets
        simp
        generalize hT : S9 ++ [SO.lst [D.str "row", D.str "column"]] = T0
        have x0 : Ext S9 T0 := hT ▸ .push _ _
        have F0 : lstAt T0 S9.length = some [D.str "row", D.str "column"] := hT ▸ lst_new
        obtain ⟨IA, hIA⟩ : ∃ IA : Nat → Env → Sto → Prop, ∀ j ρ S, IA j ρ S ↔ J3 ρ S ∧ lstAt S S9.length = some [D.str "row", D.str "column"] := ⟨_, fun _ _ _ => Iff.rfl⟩
        have core : ∀ (j : Int) (w : Str) (q : Nat) (vs : List Int) (m : Nat) (p : Po), (w = "row" ∨ w = "column") → (∀ T, Held T ns n (5000 * (t : Nat) + 132) q9 qa qb as bs → lstAt T q = some (vs.map D.int)) → atI [D.loc qa, D.loc qb] j = some (.loc q) →
            atI [encR a, encR b] j = some (encR (if w = "column" then b else a)) → p.nx = IA m → ∀ (a12 a13 a14 a15 : Option D) (S1 : Sto), Held S1 ns n (5000 * (t : Nat) + 132) q9 qa qb as bs → lstAt S1 S9.length = some [D.str "row", D.str "column"] →
            Ws (run W (CF 7) G (.for_ (.var 12) (.itr (.ix (.var 9) (.var 10))) (.cons (.asg (.var 13) (.call f__law_sign (.cons (.ix (.var 5) (.var 10)) (.cons (.var 12) .nil)))) (.cons (.iff (.cmp .NotEq (.call f__law_told (.cons (.var 5) (.cons (.var 11) (.cons (.var 12) (.cons (.cmp .Eq (.var 3) (.int 1)) .nil))))) (.var 13)) (.cons (.ret (.bl false)) .nil) .nil) .nil)))
              [some (.loc 0), some (.int (i : Nat)), some (.loc n), some (.int (t : Nat)), some (.int mo), some (encC a b), some (.str (pC a b).shown), some (.int (total a)), some (.int (total b)), some (.loc q9), some (.int j), some (.str w), a12, a13, a14, a15] S1) p := by
          intro j w q vs m p hw hv hj1 hj2 hp a12 a13 a14 a15 S1 HS hq
          simp [HS.spots, hj1, hv S1 HS]
          obtain ⟨IV, hIV⟩ : ∃ IV : Nat → Env → Sto → Prop, ∀ x ρ S, IV x ρ S ↔ ∃ (a12 a13 a14 a15 : Option D), ρ = [some (.loc 0), some (.int (i : Nat)), some (.loc n), some (.int (t : Nat)), some (.int mo), some (encC a b), some (.str (pC a b).shown), some (.int (total a)), some (.int (total b)), some (.loc q9), some (.int j), some (.str w), a12, a13, a14, a15] ∧ Held S ns n (5000 * (t : Nat) + 132) q9 qa qb as bs ∧ lstAt S S9.length = some [D.str "row", D.str "column"] := ⟨_, fun _ _ _ => Iff.rfl⟩
          refine ws_ints (ms := vs) IV (fun x ρ S hz => by obtain ⟨_, _, _, _, _, z, _⟩ := (hIV _ _ _).mp hz; exact hv S z) ?_ ?_ ((hIV _ _ _).mpr ⟨_, _, _, _, rfl, HS, hq⟩)
          · intro x ρ S2 hx hz
            obtain ⟨a12, a13, a14, a15, rfl, H2, G2⟩ := (hIV _ _ _).mp hz
            generalize vs[x] = y
            simp [encC, hj2]
            refine w_sign2 ?_
            refine w_told (a := a) (b := b) tw hw fun S3' x3' => ?_
            simp
            exact (hIV _ _ _).mpr ⟨_, _, _, _, rfl, H2.ext x3', x3'.lst G2⟩
          · intro ρ S2 hz
            obtain ⟨a12, a13, a14, a15, rfl, H2, G2⟩ := (hIV _ _ _).mp hz
            rw [hp]
            exact (hIA _ _ _).mpr ⟨(hJ3 _ _).mpr ⟨_, _, _, _, _, _, rfl, H2⟩, G2⟩
        refine ws_forl 2 IA ?_ ?_ _ 0 _ T0 (by decide) (by show 2 < 0 + (((lstAt T0 S9.length).getD []).length + 1); rw [F0]; decide) ((hIA _ _ _).mpr ⟨(hJ3 _ _).mpr ⟨_, _, _, _, _, _, rfl, H9.ext x0⟩, F0⟩)
        · intro j ρ S1 hj hz
          obtain ⟨hz1, G1⟩ := (hIA _ _ _).mp hz
          obtain ⟨a10, a11, a12, a13, a14, a15, rfl, H1⟩ := (hJ3 _ _).mp hz1
          have hg : ∀ x, ([D.str "row", D.str "column"] : List D)[j]? = some x → Src.get (.enum S9.length) j S1 = some (some (.tup [.int (j : Nat), x])) := by
            intro x hx
            show (lstAt S1 S9.length).map _ = _
            rw [G1]
            show some (([D.str "row", D.str "column"] : List D)[j]?.map fun x => D.tup [.int (j : Nat), x]) = _
            rw [hx]
            rfl
          rcases (by omega : j = 0 ∨ j = 1) with rfl | rfl
          · refine ⟨_, _, hg _ rfl, rfl, ?_⟩
            rw [s_cons]
            exact core 0 "row" qa as 1 _ (.inl rfl) (fun T h => h.at_a) at0 at0 rfl a12 a13 a14 a15 S1 H1 G1
          · refine ⟨_, _, hg _ rfl, rfl, ?_⟩
            rw [s_cons]
            exact core 1 "column" qb bs 2 _ (.inr rfl) (fun T h => h.at_b) at1 at1 rfl a12 a13 a14 a15 S1 H1 G1
        · intro ρ S1 hz
          obtain ⟨hz1, G1⟩ := (hIA _ _ _).mp hz
          exact ⟨by show (lstAt S1 S9.length).map _ = _; rw [G1]; rfl, hz1⟩
      intro ρ S1 hz
      obtain ⟨a10, a11, a12, a13, a14, a15, rfl, H1⟩ := (hJ3 _ _).mp hz
      refine s_seq J3 ?_ ?_
      · simp [H1.spots]
        rw [sl_loc H1.at_a, so_loc, lst_new]
        rw [cut_map]
        show Ws (forl (.lst S1.length) _ _ _ _ _ _) _
        generalize hT : S1 ++ [SO.lst ((cut as (some (-12)) none).map D.int)] = T1
        have x1 : Ext S1 T1 := hT ▸ .push _ _
        have F1 : lstAt T1 S1.length = some ((cut as (some (-12)) none).map D.int) := hT ▸ lst_new
        obtain ⟨IY, hIY⟩ : ∃ IY : Nat → Env → Sto → Prop, ∀ x ρ S, IY x ρ S ↔ J3 ρ S ∧ lstAt S S1.length = some ((cut as (some (-12)) none).map D.int) := ⟨_, fun _ _ _ => Iff.rfl⟩
        refine ws_ints (ms := cut as (some (-12)) none) IY (fun x ρ S hz => ((hIY _ _ _).mp hz).2) ?_ (fun ρ S hz => ((hIY _ _ _).mp hz).1) ((hIY _ _ _).mpr ⟨(hJ3 _ _).mpr ⟨_, _, _, _, _, _, rfl, H1.ext x1⟩, F1⟩)
        intro x ρ S2 hx hz
        obtain ⟨hz1, G2⟩ := (hIY _ _ _).mp hz
        obtain ⟨a10, a11, a12, a13, a14, a15, rfl, H2⟩ := (hJ3 _ _).mp hz1
        generalize (cut as (some (-12)) none)[x] = y
        simp [H2.spots]
        rw [sl_loc H2.at_b, so_loc, lst_new]
        rw [cut_map]
        show Ws (forl (.lst S2.length) _ _ _ _ _ _) _
        generalize hT2 : S2 ++ [SO.lst ((cut bs (some (-12)) none).map D.int)] = T2
        have x2 : Ext S2 T2 := hT2 ▸ .push _ _
        have F2' : lstAt T2 S2.length = some ((cut bs (some (-12)) none).map D.int) := hT2 ▸ lst_new
        obtain ⟨IX, hIX⟩ : ∃ IX : Nat → Env → Sto → Prop, ∀ x ρ S, IX x ρ S ↔ (∃ a10 a11 a12 a13 a15 : Option D, ρ = [some (.loc 0), some (.int (i : Nat)), some (.loc n), some (.int (t : Nat)), some (.int mo), some (encC a b), some (.str (pC a b).shown), some (.int (total a)), some (.int (total b)), some (.loc q9), a10, a11, a12, a13, some (.int y), a15] ∧ Held S ns n (5000 * (t : Nat) + 132) q9 qa qb as bs) ∧ lstAt S S1.length = some ((cut as (some (-12)) none).map D.int) ∧ lstAt S S2.length = some ((cut bs (some (-12)) none).map D.int) := ⟨_, fun _ _ _ => Iff.rfl⟩
        refine ws_ints (ms := cut bs (some (-12)) none) IX (fun x ρ S hz => ((hIX _ _ _).mp hz).2.2) ?_ ?_ ((hIX _ _ _).mpr ⟨⟨_, _, _, _, _, rfl, H2.ext x2⟩, x2.lst G2, F2'⟩)
        · intro x' ρ S3' hx' hz
          obtain ⟨⟨a10, a11, a12, a13, a15, rfl, H3⟩, G3, K3⟩ := (hIX _ _ _).mp hz
          generalize (cut bs (some (-12)) none)[x'] = xx
          refine s_seq (fun ρ S4' => ρ = [some (.loc 0), some (.int (i : Nat)), some (.loc n), some (.int (t : Nat)), some (.int mo), some (encC a b), some (.str (pC a b).shown), some (.int (total a)), some (.int (total b)), some (.loc q9), a10, a11, a12, some (.bl (inTown a b xx y)), some (.int y), some (.int xx)] ∧ S4' = S3') ?_ ?_
          · simp
            by_cases c1 : 0 ≤ xx <;> by_cases c2 : xx < total b <;> by_cases c3 : 0 ≤ y <;> by_cases c4 : y < total a <;> simp [c1, c2, c3, c4, inTown]
          rintro ρ S4' ⟨rfl, rfl⟩
          refine s_seq (fun ρ S5' => ρ = [some (.loc 0), some (.int (i : Nat)), some (.loc n), some (.int (t : Nat)), some (.int mo), some (encC a b), some (.str (pC a b).shown), some (.int (total a)), some (.int (total b)), some (.loc q9), a10, a11, a12, some (.bl (inTown a b xx y)), some (.int y), some (.int xx)] ∧ Ext S4' S5') ?_ ?_
          · simp
            refine w_is_point (a := a) (b := b) tw (fun S => nice_pt) fun S5' x5' => ?_
            have ez : isPlaceD a b (.tup [.int xx, .int y]) = inTown a b xx y := rfl
            rw [ez]
            simp [rep_bl]
            exact x5'
          rintro ρ S5' ⟨rfl, x5'⟩
          simp [permL]
          refine w_is_point (a := a) (b := b) tw (fun S => nice_pt) fun S6' x6' => ?_
          have ez : isPlaceD a b (.tup [.int xx, .int y]) = inTown a b xx y := rfl
          rw [ez]
          simp [rep_bl]
          have x56 := x5'.trans x6'
          exact (hIX _ _ _).mpr ⟨⟨_, _, _, _, _, rfl, H3.ext x56⟩, x56.lst G3, x56.lst K3⟩
        · intro ρ S3' hz
          obtain ⟨⟨a10, a11, a12, a13, a15, rfl, H3⟩, G3, K3⟩ := (hIX _ _ _).mp hz
          exact (hIY _ _ _).mpr ⟨(hJ3 _ _).mpr ⟨_, _, _, _, _, _, rfl, H3⟩, G3⟩
      intro ρ S2 hz
      obtain ⟨a10, a11, a12, a13, a14, a15, rfl, H2⟩ := (hJ3 _ _).mp hz
      simp [rep_town tb]
      exact (hI2 _ _ _).mpr ⟨_, _, _, _, _, _, _, _, _, _, _, _, _, rfl, H2.scr, H2.src.le (by omega)⟩
    · intro ρ S3 hz
      obtain ⟨a3, a4, a5, a6, a7, a8, a9, a10, a11, a12, a13, a14, a15, rfl, F3, s3⟩ := (hI2 _ _ _).mp hz
      exact (hJ0 _ _).mpr ⟨_, _, _, _, _, _, _, _, _, _, _, _, _, _, _, rfl, F3, by have := s3.lt; omega⟩
  · intro ρ S1 hz
    obtain ⟨a1, a2, a3, a4, a5, a6, a7, a8, a9, a10, a11, a12, a13, a14, a15, rfl, F1, L1⟩ := (hJ0 _ _).mp hz
    simp
    have t1 : Town [("W", 2)] [("S", 5)] := ⟨by decide +kernel, by decide +kernel, by decide, by decide⟩
    refine w_grid_size (a := [("W", 2)]) (b := [("S", 5)]) t1 fun S2 x2 => ?_
    have e1 : total [("W", 2)] = 2 := by decide +kernel
    have e2 : total [("S", 5)] = 5 := by decide +kernel
    rw [e1, e2, tup_eq.1]
    simp
    refine w_street_direction (a := [("W", 2)]) (b := [("S", 5)]) t1 (fun S => nice_st) (fun d m r e hs hr S3 x3 => ?_) (fun hs S3 x3 => ?_)
    · cases e
      have er : runAt [("W", 2)] 1 0 = some (("W" : Str), 0, 1) := by decide +kernel
      have hr' : runAt [("W", 2)] 1 0 = some r := hr
      rw [er] at hr'
      cases hr'
      simp
    · have : isStreetD [("W", 2)] [("S", 5)] (.tup [.str "row", .int 1]) = true := by decide +kernel
      rw [this] at hs
      cases hs

end
end CC
open PySem PySem.W PySem.Calls PyProof.Rows
theorem PySem.Challenge.cw_cornercity_k02_sizes_and_directions_holds : PySem.Challenge.rw_cornercity_k02_sizes_and_directions.Holds := by
  w_on; o_law
  refine HandSHeadRun.head_any (r := OpenLaw.row PySem.Challenge.rw_cornercity_k02_sizes_and_directions) (q := view (OpenLaw.row PySem.Challenge.rw_cornercity_k02_sizes_and_directions).prog [34]) (H := CC.hk) (ob := CC.ob) (M := 4000) (loose := CC.loose) (d := HandSHeadRun.topDef (OpenLaw.row PySem.Challenge.rw_cornercity_k02_sizes_and_directions).prog 34) (kwd := []) CC.ob_eq
    (by kernel_rfl) (fun s => by kernel_rfl) CC.run_top (by kernel_rfl) (by kernel_rfl) (by kernel_rfl) (by rfl) (by first | assumption | decide +kernel) (by decide +kernel) ⟨rfl, rfl, rfl, rfl, rfl, by decide +kernel⟩ ?hw ?hc
  case hw => w_witness2
  case hc =>
    refine CC.walk_e (l := PySem.Challenge.rw_cornercity_k02_sizes_and_directions) (n := 63) (k := 8) (x := "law") (kw := CC.kwt CC.f_law) (cs := CC.CF 8 CC.f_law) rfl (by decide) (by kernel_rfl) (by kernel_rfl) ⟨rfl, by decide, by decide⟩ ?F CC.law_thm
    intro w mg h Y G
    obtain ⟨K, KX, c⟩ := Y
    exact ⟨K, KX, fun base Xb Gb => (CC.calls_ok (CC.txt_of KX G c) 8).fn CC.f_law "law" CC.fd_law rfl rfl⟩
