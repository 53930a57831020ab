import PyProof.Rows.All
import Wide.All
import OpenK.AllK
import Wide.FinOn
import KE.KStateDown
import PySem.Challenge.RW_cornercity_k04_reversed_streets
import HandS.Text
import HandS.ForMost
import HandS.ForExc
import HandS.IsInst
import HandS.Style
import HandS.TupAny
import HandS.Wide
import HandS.Deep
import KE.KeyNested
import HandS.ExcValue
import HandS.ExcCtx
import HandS.SetBool
import HandS.Dict
import HandS.TupLen
import HandS.Zip
import HandS.Flow
import HandS.More
import PyProof.SliceStr2
import KE.GoesMore
import HandS.NoneIn
import HandS.FStrTup
import HandS.Head0
import HandS.Head1
import HandS.Head2
import HandS.HeadHook1
import HandS.HeadHook3
import HandS.TryOnly
import HandS.ExcIs
import KE.KExcIs
import HandS.ExcInit
import HandS.ExcField
import HandS.HotCalls
import HandS.Hot
import HandS.SetKeys
import HandS.MapSum
import PyProof.DictWalks
import PyProof.SumAny
import HandS.RaiseMore
import KE.KDictDisplayH
import HandS.TupSets
import KE.KDictKeyed
import KE.KDictList
import HandS.SortInts
import HandS.DictComp
import HandS.Sort
import PyProof.LongRange
import KE.SortData
import HandS.Conv
import HandS.MakeKw
import PyProof.FactsLen
import KE.DataCmp
import KE.KDictPairs
import HandS.Set
import PyProof.StrLawsRepr
set_option Elab.async false
set_option linter.all false
set_option maxRecDepth 100000
set_option maxHeartbeats 4000000
namespace CC
open PySem PySem.Spec PyProof.Rows L2
inductive D where
  | non | bl (b : Bool) | int (i : Int) | str (x : Str) | tup (ds : List D) | loc (n : Nat) | ty (t : String) | fn (x : Str)
  | fl (ds : List D) | fd (ks : List Key) (ds : List D) | exn (c : Nat) (ps : List D) | cls (c : Nat)
  | fm (ks : List NestedKey) (ds : List D) | bd (ds : List D)
  deriving Inhabited
def D.lt (k : Nat) : D → Bool
  | .loc n => decide (n < k)
  | .tup ds => ds.attach.all fun ⟨d, _⟩ => d.lt k
  | .fl ds => ds.attach.all fun ⟨d, _⟩ => d.lt k
  | .fd _ ds => ds.attach.all fun ⟨d, _⟩ => d.lt k
  | .exn _ ds => ds.attach.all fun ⟨d, _⟩ => d.lt k
  | .fm _ ds => ds.attach.all fun ⟨d, _⟩ => d.lt k
  | .bd ds => ds.attach.all fun ⟨d, _⟩ => d.lt k
  | _ => true
abbrev ltL (k : Nat) (ds : List D) : Bool := ds.all fun d => d.lt k
@[simp] theorem lt_loc {k n : Nat} : (D.loc n).lt k = decide (n < k) := by unfold D.lt; rfl
@[simp] theorem lt_tup {k : Nat} {ds : List D} : (D.tup ds).lt k = ltL k ds := by rw [D.lt]; simp
@[simp] theorem lt_fl {k : Nat} {ds : List D} : (D.fl ds).lt k = ltL k ds := by rw [D.lt]; simp
@[simp] theorem lt_fd {k : Nat} {ks : List Key} {ds : List D} : (D.fd ks ds).lt k = ltL k ds := by rw [D.lt]; simp
@[simp] theorem lt_exn {k c : Nat} {ds : List D} : (D.exn c ds).lt k = ltL k ds := by rw [D.lt]; simp
@[simp] theorem lt_fm {k : Nat} {ks : List NestedKey} {ds : List D} : (D.fm ks ds).lt k = ltL k ds := by rw [D.lt]; simp
@[simp] theorem lt_bd {k : Nat} {ds : List D} : (D.bd ds).lt k = ltL k ds := by rw [D.lt]; simp
@[simp] theorem lt_cls {k c : Nat} : (D.cls c).lt k = true := by unfold D.lt; rfl
@[simp] theorem lt_non {k : Nat} : D.non.lt k = true := by unfold D.lt; rfl
@[simp] theorem lt_bl {k : Nat} {b : Bool} : (D.bl b).lt k = true := by unfold D.lt; rfl
@[simp] theorem lt_int {k : Nat} {b : Int} : (D.int b).lt k = true := by unfold D.lt; rfl
@[simp] theorem lt_str {k : Nat} {b : Str} : (D.str b).lt k = true := by unfold D.lt; rfl
@[simp] theorem lt_ty {k : Nat} {b : String} : (D.ty b).lt k = true := by unfold D.lt; rfl
@[simp] theorem lt_fn {k : Nat} {b : Str} : (D.fn b).lt k = true := by unfold D.lt; rfl
inductive SO where
  | lst (ds : List D) | frz (ds : List D) | dic (kvs : List (Key × D)) | fdic (kvs : List (Key × D)) | dn (kvs : List (NestedKey × D)) | fdn (kvs : List (NestedKey × D))
  | ins (c : Nat) (fs : List (Str × D))
abbrev Sto := List SO
def SO.lt (k : Nat) : SO → Bool
  | .lst ds => ltL k ds
  | .frz ds => ltL k ds
  | .dic kvs => ltL k (kvs.map (·.2))
  | .fdic kvs => ltL k (kvs.map (·.2))
  | .dn kvs => ltL k (kvs.map (·.2))
  | .fdn kvs => ltL k (kvs.map (·.2))
  | .ins _ fs => ltL k (fs.map (·.2))
def keepS (S S' : Sto) : Prop := ∀ (i : Nat) (so : SO), i < S.length → S'[i]? = some so → S[i]? = some so ∨ so.lt S.length = true
open Classical in
noncomputable def cutS (S : Sto) (b : Bool) (S' : Sto) : Sto := if b = true ∧ keepS S S' then S'.take S.length else S'
abbrev Env := List (Option D)
inductive R (α : Type) where
  | ok (a : α) (S : Sto) | exc (c : Nat) (p : List D) (S : Sto) | bad
def R.bind {α β : Type} (r : R α) (f : α → Sto → R β) : R β :=
  match r with
  | .ok a S => f a S
  | .exc c p S => .exc c p S
  | .bad => .bad
noncomputable def trim (S : Sto) : R D → R D
  | .ok d S' => .ok d (cutS S (d.lt S.length) S')
  | .exc c p S' => .exc c p (cutS S (ltL S.length p) S')
  | .bad => .bad
def R.opt {α : Type} (o : Option α) (S : Sto) : R α := match o with
  | some a => .ok a S
  | none => .bad
@[simp] theorem R.bind_ok {α β : Type} (a : α) (S : Sto) (f : α → Sto → R β) : (R.ok a S).bind f = f a S := rfl
@[simp] theorem R.bind_exc {α β : Type} (c : Nat) (p : List D) (S : Sto) (f : α → Sto → R β) : (R.exc c p S : R α).bind f = .exc c p S := rfl
@[simp] theorem R.bind_bad {α β : Type} (f : α → Sto → R β) : (R.bad : R α).bind f = .bad := rfl
@[simp] theorem R.opt_some {α : Type} (a : α) (S : Sto) : R.opt (some a) S = .ok a S := rfl
abbrev CallSem := Nat → List D → Sto → R D
inductive Src where
  | lst (n : Nat) | ds (l : List D) | zip (n k : Nat) | enum (n : Nat) | zipF (n : Nat) (l : List D)
inductive Bi where
  | len | abs | sum | min | max | all | any | sorted | repr | int | str | list | tuple | set | isinst | isx | listn | sortd
  deriving DecidableEq
inductive Mt where
  | append | pop | popAt | insert | reverse | extend
  deriving DecidableEq
inductive Xp where
  | var (i : Nat) | glo (x : Nat) | non | bl (b : Bool) | int (i : Int) | str (x : Str) | tyc (t : String)
  | bin (op : Operator) (a b : Xp) | neg (a : Xp) | nt (a : Xp) | and (a b : Xp) | or (a b : Xp)
  | cmp (op : CmpOp) (a b : Xp) | cmp2 (op op' : CmpOp) (a b c : Xp) | ife (c a b : Xp)
  | call (f : Nat) (es : Xp) | callk (f : Nat) (es ks : Xp) (perm : List Nat) | bi (b : Bi) (es : Xp) | mt (m : Mt) (o es : Xp)
  | ix (a b : Xp) | sl (a lo hi : Xp) | rev (a : Xp) | tup (es : Xp) | lst (es : Xp)
  | lc (it tg elt cond : Xp) (vs : List Nat) | lc2 (it tg cond it1 tg1 cond1 elt : Xp) (vs vs1 : List Nat)
  | frzv (a : Xp) | gdx (t : List (Str × D)) (e : Xp) | dnew | dget (o k v : Xp) | dsetd (o k v : Xp) | sumv (o : Xp) | lset (o : Xp) | lix (o e : Xp)
  | callv (t : List (Str × Nat)) (f es : Xp) | callvk (t : List (Str × Nat)) (f es ks : Xp) (perm : List Nat)
  | dgetn (o k v : Xp) | dksn (o : Xp) | dd (es : Xp) | dnn | ddn (es : Xp) | xfld (f : Str) (a : Xp) | mkx (c : Nat) (es : Xp)
  | itr (a : Xp) | dit (o : Xp) | dks (o : Xp) | dvs (o : Xp) | rng1 (a : Xp) | rng2 (a b : Xp) | zip2 (a b : Xp) | enum (a : Xp)
  | prm (f : List D → Sto → R D) (es : Xp) | itp (f : List D → Sto → R Src) (es : Xp)
  | fld (f : Str) (o : Xp) | meth (m : Str) (c i : Nat) (o es : Xp) | mko (c i : Nat) (es : Xp) | lcd (it tg k v cond : Xp) (vs : List Nat)
  | nil | cons (a b : Xp)
def truth (x : D) (S : Sto) : Option Bool := match x with
  | .non => some false
  | .bl b => some b
  | .int i => some (i != 0)
  | .tup ds => some (!ds.isEmpty)
  | .fl ds => some (!ds.isEmpty)
  | .loc n => match S[n]? with
    | some (.lst ds) => some (!ds.isEmpty)
    | some (.frz ds) => some (!ds.isEmpty)
    | _ => none
  | _ => none
def lstAt (S : Sto) (n : Nat) : Option (List D) := match S[n]? with
  | some (.lst ds) => some ds
  | some (.frz ds) => some ds
  | _ => none
def lstD (S : Sto) : D → Option (List D)
  | .loc n => lstAt S n
  | .fl ds => some ds
  | _ => none
def sqD (S : Sto) : D → Option (List D)
  | .tup ds => some ds
  | x => lstD S x
def lstM (S : Sto) : D → Option (List D)
  | .loc n => match S[n]? with
    | some (.lst ds) => some ds
    | _ => none
  | .fl ds => some ds
  | _ => none
def lstW (S : Sto) : D → Option (List D)
  | .loc n => match S[n]? with
    | some (.lst ds) => some ds
    | _ => none
  | _ => none
def frzD (x : D) (S : Sto) : R D := match x with
  | .loc n => match S[n]? with
    | some (.lst ds) => .ok (.fl ds) (S.set n (.frz ds))
    | some (.dic kvs) => .ok (.fd (kvs.map (·.1)) (kvs.map (·.2))) (S.set n (.fdic kvs))
    | some (.dn kvs) => .ok (.fm (kvs.map (·.1)) (kvs.map (·.2))) (S.set n (.fdn kvs))
    | _ => .ok x S
  | _ => .ok x S
def dicAt (S : Sto) (n : Nat) : Option (List (Key × D)) := match S[n]? with
  | some (.dic kvs) => some kvs
  | some (.fdic kvs) => some kvs
  | _ => none
def dnAt (S : Sto) (n : Nat) : Option (List (NestedKey × D)) := match S[n]? with
  | some (.dn kvs) => some kvs
  | some (.fdn kvs) => some kvs
  | _ => none
mutual
def kN : D → Option NestedKey
  | .non => some .none
  | .int i => some (.num i)
  | .str x => some (.text x)
  | .tup ds => (kNs ds).map .tup
  | _ => none
def kNs : List D → Option (List NestedKey)
  | [] => some []
  | d :: r => (kN d).bind fun k => (kNs r).map (k :: ·)
end
def kT (d : D) : Option NestedKey := match d with
  | .tup ds => (kNs ds).bind fun ks => if decide ((NestedKey.tup ks).depth ≤ 8) then some (.tup ks) else none
  | _ => none
def kTs : List D → Option (List NestedKey)
  | [] => some []
  | d :: r => (kT d).bind fun k => (kTs r).map (k :: ·)
def kB (d : D) : Option NestedKey := match d with
  | .tup [.int x, .bl b] => some (.tup [.num x, .num (if b then 1 else 0)])
  | _ => none
def kBs : List D → Option (List NestedKey)
  | [] => some []
  | d :: r => (kB d).bind fun k => (kBs r).map (k :: ·)
def flatB : NestedKey → Bool
  | .tup ks => ks.all fun k => match k with
    | .num _ => true
    | .text _ => true
    | _ => false
  | _ => false
def uds : List NestedKey → List NestedKey
  | [] => []
  | k :: r => if k ∈ r then uds r else k :: uds r
def lsetL (ds : List D) : Option Nat := (kTs ds).bind fun ks => if ks.all flatB && decide (ks.length < 300) then some (uds ks).length else none
mutual
def nD : NestedKey → D
  | .none => .non
  | .num i => .int i
  | .text x => .str x
  | .tup ks => .tup (nDs ks)
def nDs : List NestedKey → List D
  | [] => []
  | k :: ks => nD k :: nDs ks
end
def kD : D → Option Key
  | .int i => some (.inl i)
  | .str x => some (.inr x)
  | _ => none
def valA {κ : Type} [DecidableEq κ] (kvs : List (κ × D)) (k : κ) : Option D := (kvs.find? fun kv => decide (kv.1 = k)).map (·.2)
def putA {κ : Type} [DecidableEq κ] (kvs : List (κ × D)) (k : κ) (d : D) : List (κ × D) := if (kvs.any fun kv => decide (kv.1 = k)) = true then kvs.map (fun kv => if kv.1 = k then (kv.1, d) else kv) else kvs ++ [(k, d)]
def isLst (x : D) (S : Sto) : Bool := match x with
  | .loc n => (lstAt S n).isSome
  | _ => false
def lenL (o : Option (List D)) (p : Option (List (Key × D))) (q : Option (List (NestedKey × D))) : Option Nat := match o with
  | some ds => some ds.length
  | none => match p with
    | some kvs => some kvs.length
    | none => q.map List.length
def ixL (o : Option (List D)) (p : Option (List (Key × D))) (q : Option (List (NestedKey × D))) (y : D) : Option D := match o with
  | some ds => match y with
    | .int i => atI ds i
    | _ => none
  | none => match p with
    | some kvs => (kD y).bind fun k => valA kvs k
    | none => q.bind fun kvs => (kT y).bind fun k => valA kvs k
def lenD (x : D) (S : Sto) : Option Nat := match x with
  | .fl ds => some ds.length
  | .fd ks ds => some (ks.zip ds).length
  | .str z => if z.length ≤ sizeLine then some z.length else none
  | .tup ds => some ds.length
  | .loc n => lenL (lstAt S n) (dicAt S n) (dnAt S n)
  | .fm ks ds => some (ks.zip ds).length
  | _ => none
def toP (S : Sto) : Nat → D → Option PyData
  | _, .non => some .none
  | _, .bl b => some (.bool b)
  | _, .int i => some (.int i)
  | _, .str x => some (.str x)
  | n + 1, .tup ds => (ds.mapM (toP S n)).map .tuple
  | n + 1, .loc k => (lstAt S k).bind fun ds => (ds.mapM (toP S n)).map .list
  | n + 1, .fl ds => (ds.mapM (toP S n)).map .list
  | _, _ => none
def eqD (x y : D) (S : Sto) : Option Bool :=
  (toP S 50 x).bind fun p => (toP S 50 y).bind fun q => if SeqAt.shaped p && SeqAt.shaped q then some (PyData.eqv p q) else none
mutual
def shB : PyData → Nat
  | .none => 4
  | .bool _ => 5
  | .int i => i.natAbs.log2 + 3
  | .str x => (reprText x).length
  | .list xs => shBs xs + 3
  | .tuple xs => shBs xs + 3
  | .dict _ => 2
def shBs : List PyData → Nat
  | [] => 0
  | x :: xs => shB x + 2 + shBs xs
end
def toQ (S : Sto) : Nat → D → Option PyData
  | _, .non => some .none
  | _, .bl b => some (.bool b)
  | _, .int i => some (.int i)
  | _, .str x => some (.str x)
  | _, .fd [] [] => some (.dict [])
  | n + 1, .tup ds => (ds.mapM (toQ S n)).map .tuple
  | n + 1, .fl ds => (ds.mapM (toQ S n)).map .list
  | n + 1, .loc k => match lstAt S k with
    | some ds => (ds.mapM (toQ S n)).map .list
    | none => match dicAt S k with
      | some [] => some (.dict [])
      | _ => none
  | _, _ => none
mutual
def dic0 : PyData → Bool
  | .none => true
  | .bool _ => true
  | .int _ => true
  | .str _ => true
  | .list xs => dic0s xs
  | .tuple xs => dic0s xs
  | .dict kvs => kvs.isEmpty
def dic0s : List PyData → Bool
  | [] => true
  | x :: xs => dic0 x && dic0s xs
end
def repOk (p : PyData) : Bool := p.showable && dic0 p && decide (p.depth ≤ 64) && decide (shB p ≤ sizeLine)
def repP (o : Option PyData) : Option D := o.bind fun p => if repOk p then some (.str p.shown) else none
def repD (x : D) (S : Sto) : Option D := repP (toQ S 50 x)
def flatD : D → Bool
  | .non => true
  | .bl _ => true
  | .int _ => true
  | .str _ => true
  | _ => false
def feq : D → D → Bool
  | .non, .non => true
  | .bl a, .bl b => a == b
  | .bl a, .int b => (if a then 1 else 0) == b
  | .int a, .bl b => a == (if b then 1 else 0)
  | .int a, .int b => a == b
  | .str a, .str b => a == b
  | _, _ => false
def inSeq (x : D) (ds : List D) : Option Bool := if flatD x && ds.all flatD then some (ds.any fun y => feq y x) else none
def inDeep (x y : D) (S : Sto) : Option Bool :=
  (toP S 50 x).bind fun p => (toP S 50 y).bind fun q => match q with
    | .list ds => if SeqAt.shaped p && SeqAt.shaped (.list ds) then some (ds.any fun z => PyData.eqv z p) else none
    | _ => none
def inD (x y : D) (S : Sto) : Option Bool := match y with
  | .tup ds => inSeq x ds
  | .loc n => match dicAt S n with
    | some kvs => (kD x).map fun k => (valA kvs k).isSome
    | none => match dnAt S n with
      | some kvs => (kT x).map fun k => (valA kvs k).isSome
      | none => inDeep x (.loc n) S
  | .fl ds => inDeep x (.fl ds) S
  | .fd ks ds => (kD x).map fun k => (valA (ks.zip ds) k).isSome
  | .fm ks ds => (kT x).map fun k => (valA (ks.zip ds) k).isSome
  | .str z => match x with
    | .str c => some (!(Builtin.Str.occurrences z c 0 z.length 1).isEmpty)
    | _ => none
  | _ => none
def isNon : D → Bool
  | .non => true
  | _ => false
def lenNe (x y : D) (S : Sto) : Option Bool := (lstD S x).bind fun ds => (lstD S y).bind fun es => if ds.length = es.length then none else some false
def qEq (x y : D) (S : Sto) : Option Bool := match x, y with
  | .int i, .int j => some (i == j)
  | .str a, .str b => some (a == b)
  | x, y => match eqD x y S with
    | some b => some b
    | none => lenNe x y S
def cmpD (op : CmpOp) (x y : D) (S : Sto) : Option Bool := match op with
  | .Eq => qEq x y S
  | .NotEq => (qEq x y S).map (!·)
  | .Lt => match x, y with
    | .int i, .int j => some (decide (i < j))
    | _, _ => none
  | .LtE => match x, y with
    | .int i, .int j => some (decide (i ≤ j))
    | _, _ => none
  | .Gt => match x, y with
    | .int i, .int j => some (decide (j < i))
    | _, _ => none
  | .GtE => match x, y with
    | .int i, .int j => some (decide (j ≤ i))
    | _, _ => none
  | .In => inD x y S
  | .NotIn => (inD x y S).map (!·)
  | .Is => match y with
    | .non => some (isNon x)
    | _ => none
  | .IsNot => match y with
    | .non => some (!isNon x)
    | _ => none
def mulOk (i j : Int) : Bool := decide (i.natAbs.log2 + j.natAbs.log2 < 1000000)
def powOk (i j : Int) : Bool := decide (0 ≤ j) && decide (j ≤ 1000) && decide (i.natAbs.log2 < 1000)
def divOk (j : Int) : Bool := decide (0 < j) && decide (j.natAbs.log2 < 9000)
def mk (so : SO) (S : Sto) : R D := .ok (.loc S.length) (S ++ [so])
def catD (o p : Option (List D)) (S : Sto) : R D := match o, p with
  | some a, some b => if a.length + b.length ≤ sizeLine then mk (.lst (a ++ b)) S else .bad
  | _, _ => .bad
def repL (o : Option (List D)) (k : Int) (S : Sto) : R D := match o with
  | some a => if decide (-(2 ^ 63) ≤ k) && decide (k < 2 ^ 63) && decide (a.length * k.toNat ≤ sizeLine) then mk (.lst (List.replicate k.toNat a).flatten) S else .bad
  | _ => .bad
def binD (op : Operator) (x y : D) (S : Sto) : R D := match op with
  | .Add => match x, y with
    | .int i, .int j => .ok (.int (i + j)) S
    | .str a, .str b => if a.length + b.length ≤ sizeLine then .ok (.str (a ++ b)) S else .bad
    | .tup a, .tup b => if a.length + b.length ≤ sizeLine then .ok (.tup (a ++ b)) S else .bad
    | x, y => catD (lstM S x) (lstM S y) S
  | .Sub => match x, y with
    | .int i, .int j => .ok (.int (i - j)) S
    | _, _ => .bad
  | .Mult => match x, y with
    | .int i, .int j => if mulOk i j then .ok (.int (i * j)) S else .bad
    | x, .int k => repL (lstW S x) k S
    | _, _ => .bad
  | .FloorDiv => match x, y with
    | .int i, .int j => if divOk j then .ok (.int (i / j)) S else .bad
    | _, _ => .bad
  | .Mod => match x, y with
    | .int i, .int j => if decide (0 < j) then .ok (.int (i % j)) S else .bad
    | _, _ => .bad
  | .Pow => match x, y with
    | .int i, .int j => if powOk i j then .ok (.int (i ^ j.toNat)) S else .bad
    | _, _ => .bad
  | _ => .bad
def augD (op : Operator) (x y : D) (S : Sto) : R D := match op with
  | .Add => match x, y with
    | .int i, .int j => .ok (.int (i + j)) S
    | .str a, .str b => if a.length + b.length ≤ sizeLine then .ok (.str (a ++ b)) S else .bad
    | .loc n, y => match S[n]?, lstM S y with
      | some (.lst a), some b => if a.length + b.length ≤ sizeLine then .ok (.loc n) (S.set n (.lst (a ++ b))) else .bad
      | _, _ => .bad
    | _, _ => .bad
  | .Sub => match x, y with
    | .int i, .int j => .ok (.int (i - j)) S
    | _, _ => .bad
  | .Mult => match x, y with
    | .int i, .int j => if decide (-(2 ^ 64) < j) && decide (j < 2 ^ 64) then .ok (.int (i * j)) S else .bad
    | _, _ => .bad
  | _ => .bad
def ixD (x y : D) (S : Sto) : Option D := match x, y with
  | .tup ds, .int i => atI ds i
  | .loc n, y => ixL (lstAt S n) (dicAt S n) (dnAt S n) y
  | .fl ds, .int i => atI ds i
  | .fd ks ds, y => (kD y).bind fun k => valA (ks.zip ds) k
  | .fm ks ds, y => (kT y).bind fun k => valA (ks.zip ds) k
  | .str z, .int i => if z.length ≤ sizeLine then (atI z.cps.toList i).map fun c => .str ⟨#[c]⟩ else none
  | _, _ => none
def cut {α : Type} (xs : List α) (lo hi : Option Int) : List α := (xs.drop (HT.sIx xs.length 0 lo)).take (HT.sIx xs.length xs.length hi - HT.sIx xs.length 0 lo)
def slD (x : D) (lo hi : Option Int) (S : Sto) : R D := match x with
  | .fl ds => mk (.lst (cut ds lo hi)) S
  | .tup ds => .ok (.tup (cut ds lo hi)) S
  | .loc n => match lstAt S n with
    | some ds => mk (.lst (cut ds lo hi)) S
    | none => .bad
  | .str z => if z.length ≤ sizeLine then .ok (.str (L2.cutS z lo hi)) S else .bad
  | _ => .bad
def revD (x : D) (S : Sto) : R D := match x with
  | .fl ds => mk (.lst ds.reverse) S
  | .loc n => match lstAt S n with
    | some ds => mk (.lst ds.reverse) S
    | none => .bad
  | .tup ds => .ok (.tup ds.reverse) S
  | .str z => if z.length ≤ sizeLine then .ok (.str ⟨z.cps.toList.reverse.toArray⟩) S else .bad
  | _ => .bad
def intsOf : List D → Option (List Int)
  | [] => some []
  | .int i :: r => (intsOf r).map (i :: ·)
  | _ :: _ => none
def blsOf : List D → Option (List Bool)
  | [] => some []
  | .bl b :: r => (blsOf r).map (b :: ·)
  | _ :: _ => none
def tyOfD (x : D) (S : Sto) : Option String := match x with
  | .non => some "NoneType"
  | .bl _ => some "bool"
  | .int _ => some "int"
  | .str _ => some "str"
  | .tup _ => some "tuple"
  | .fl _ => some "list"
  | .fd _ _ => some "dict"
  | .loc n => match S[n]? with
    | some (.lst _) => some "list"
    | some (.dic _) => some "dict"
    | _ => none
  | _ => none
def subTy (a b : String) : Bool := a == b || (a == "bool" && b == "int")
def knownTy (b : String) : Bool := b == "int" || b == "bool" || b == "str" || b == "tuple" || b == "list" || b == "dict"
def isT (a : String) (t : D) : Option Bool := match t with
  | .ty b => if knownTy b then some (subTy a b) else none
  | .tup [.ty b, .ty c] => if knownTy b && knownTy c then some (subTy a b || subTy a c) else none
  | _ => none
def isinst (x t : D) (S : Sto) : Option Bool := (tyOfD x S).bind fun a => isT a t
def leastI : Int → List Int → Int
  | m, [] => m
  | m, x :: r => leastI (if x < m then x else m) r
def mostI : Int → List Int → Int
  | m, [] => m
  | m, x :: r => mostI (if m < x then x else m) r
def subX (c k : Nat) : Bool := c == k || k == 0
def isX1 (c : Nat) : D → Option Bool
  | .cls k => some (subX c k)
  | .ty t => if t = "ValueError" then some true else none
  | _ => none
def isXL (c : Nat) : List D → Option Bool
  | [] => some false
  | t :: r => (isX1 c t).bind fun b => (isXL c r).map fun e => b || e
def isX (c : Nat) : D → Option Bool
  | .tup ts => isXL c ts
  | t => isX1 c t
def dnD (S : Sto) : D → Option (List (NestedKey × D))
  | .loc n => dnAt S n
  | .fm ks ds => some (ks.zip ds)
  | _ => none
def insI (x : Int) : List Int → List Int
  | [] => [x]
  | y :: l => if x ≤ y then x :: y :: l else y :: insI x l
def isort : List Int → List Int
  | [] => []
  | x :: l => insI x (isort l)
def dicD (S : Sto) : D → Option (List (Key × D))
  | .loc n => dicAt S n
  | .fd ks ds => some (ks.zip ds)
  | _ => none
def keysI : List (Key × D) → Option (List Int)
  | [] => some []
  | (.inl i, _) :: r => (keysI r).map (i :: ·)
  | _ :: _ => none
def idxI (y : Int) : List Int → Option Nat
  | [] => none
  | x :: r => if x = y then some 0 else (idxI y r).map (· + 1)
def lixD (x y : D) (S : Sto) : Option D := match y with
  | .int i => ((lstD S x).bind intsOf).bind fun ns => (idxI i ns).map fun (j : Nat) => .int (j : Nat)
  | _ => none
def biD (b : Bi) (xs : List D) (S : Sto) : R D := match b, xs with
  | .len, [x] => R.opt ((lenD x S).map fun n => .int n) S
  | .abs, [.int i] => .ok (.int (if i < 0 then -i else i)) S
  | .max, [.int i, .int j] => .ok (.int (if j > i then j else i)) S
  | .min, [.int i, .int j] => .ok (.int (if j < i then j else i)) S
  | .max, [x] => match (sqD S x).bind intsOf with
    | some (x :: r) => .ok (.int (mostI x r)) S
    | _ => .bad
  | .min, [x] => match (sqD S x).bind intsOf with
    | some (x :: r) => .ok (.int (leastI x r)) S
    | _ => .bad
  | .sum, [x] => R.opt (((lstD S x).bind intsOf).map fun ns => .int ns.sum) S
  | .all, [x] => R.opt (((lstD S x).bind blsOf).map fun bs => .bl (bs.all id)) S
  | .any, [x] => R.opt (((lstD S x).bind blsOf).map fun bs => .bl (bs.any id)) S
  | .int, [.int i] => .ok (.int i) S
  | .str, [.int i] => if decide (i.natAbs.log2 < 1900) then .ok (.str (toString i)) S else .bad
  | .str, [.str x] => .ok (.str x) S
  | .int, [.bl k] => .ok (.int (if k then 1 else 0)) S
  | .sorted, [x] => match (lstD S x).bind intsOf with
    | some ns => mk (.lst ((isort ns).map D.int)) S
    | none => .bad
  | .sortd, [x] => match (dicD S x).bind keysI with
    | some ns => mk (.lst ((isort ns).map D.int)) S
    | none => .bad
  | .listn, [x] => match dnD S x with
    | some kvs => mk (.lst (kvs.map fun kv => nD kv.1)) S
    | none => .bad
  | .list, [.tup ds] => mk (.lst ds) S
  | .list, [x] => match lstD S x with
    | some ds => mk (.lst ds) S
    | none => .bad
  | .tuple, [.tup ds] => .ok (.tup ds) S
  | .tuple, [x] => match lstD S x with
    | some ds => .ok (.tup ds) S
    | none => .bad
  | .repr, [x] => R.opt (repD x S) S
  | .isinst, [x, t] => R.opt ((isinst x t S).map .bl) S
  | .isx, [.exn c _, t] => R.opt ((isX c t).map .bl) S
  | .isx, [x, t] => R.opt ((isinst x t S).map .bl) S
  | _, _ => .bad
def mtL (m : Mt) (ds xs : List D) (S : Sto) : Option (D × List D) := match m, xs with
  | .append, [d] => if ds.length < sizeLine then some (.non, ds ++ [d]) else none
  | .pop, [] => (ds[ds.length - 1]?).map fun y => (y, ds.dropLast)
  | .popAt, [.int i] => if decide (-(2 ^ 63) ≤ i) && decide (i < 2 ^ 63) then (seqIndex? i ds.length).bind fun k => (ds[k]?).map fun y => (y, ds.eraseIdx k) else none
  | .insert, [.int i, y] => if decide (ds.length < sizeLine) && (decide (0 ≤ i) && decide (i < 2 ^ 63)) then some (.non, ds.take i.toNat ++ [y] ++ ds.drop i.toNat) else none
  | .reverse, [] => some (.non, ds.reverse)
  | .extend, [y] => match lstM S y with
    | some zs => if ds.length + zs.length ≤ sizeLine then some (.non, ds ++ zs) else none
    | _ => none
  | _, _ => none
def mtW (n : Nat) (S : Sto) : Option (D × List D) → R D
  | some (r, ys) => .ok r (S.set n (.lst ys))
  | none => .bad
def mtD (m : Mt) (x : D) (xs : List D) (S : Sto) : R D := match x with
  | .loc n => match S[n]? with
    | some (.lst ds) => mtW n S (mtL m ds xs S)
    | _ => .bad
  | _ => .bad
def setIx (x y d : D) (S : Sto) : Option Sto := match x with
  | .loc n => match S[n]? with
    | some (.lst ds) => match y with
      | .int i => (ixN ds.length i).map fun j => S.set n (.lst (ds.set j d))
      | _ => none
    | some (.dic kvs) => (kD y).bind fun k => if kvs.length < sizeLine then some (S.set n (.dic (putA kvs k d))) else none
    | some (.dn kvs) => (kT y).bind fun k => if kvs.length < sizeLine then some (S.set n (.dn (putA kvs k d))) else none
    | _ => none
  | _ => none
def putSl (ds es : List D) (lo hi : Option Int) : List D := ds.take (HT.sIx ds.length 0 lo) ++ es ++ ds.drop (max (HT.sIx ds.length 0 lo) (HT.sIx ds.length ds.length hi))
def setSl (x : D) (lo hi : Option Int) (d : D) (S : Sto) : Option Sto := match x, d with
  | .loc n, .loc k => match S[n]?, S[k]? with
    | some (.lst ds), some (.lst es) => if n ≠ k ∧ ds.length + es.length ≤ sizeLine then some (S.set n (.lst (putSl ds es lo hi))) else none
    | _, _ => none
  | _, _ => none
def kDi : Key → D
  | .inl i => .int i
  | .inr x => .str x
def asDic (x : D) (S : Sto) : Option Nat := match x with
  | .loc n => (dicAt S n).map fun _ => n
  | _ => none
def dgetD (x y z : D) (S : Sto) : Option D := (dicD S x).bind fun kvs => (kD y).map fun k => (valA kvs k).getD z
def dgetnD (x y z : D) (S : Sto) : Option D := (dnD S x).bind fun kvs => (kT y).map fun k => (valA kvs k).getD z
def ddL : List D → List (Key × D) → Option (List (Key × D))
  | [], acc => some acc
  | [_], _ => none
  | k :: v :: r, acc => (kD k).bind fun k => ddL r (putA acc k v)
def ddD (n : Nat) (xs : List D) (S : Sto) : R D := match S[n]?, ddL xs [] with
  | some (.dic []), some kvs => if xs.length ≤ 30 then .ok (.loc n) (S.set n (.dic kvs)) else .bad
  | _, _ => .bad
def ddnL : List D → List (NestedKey × D) → Option (List (NestedKey × D))
  | [], acc => some acc
  | [_], _ => none
  | k :: v :: r, acc => (kT k).bind fun k => ddnL r (putA acc k v)
def ddnD (n : Nat) (xs : List D) (S : Sto) : R D := match S[n]?, ddnL xs [] with
  | some (.dn []), some kvs => if xs.length ≤ 30 then .ok (.loc n) (S.set n (.dn kvs)) else .bad
  | _, _ => .bad
def xfs : Nat → List Str
  | 9 => ["direction"]
  | 10 => ["limit"]
  | _ => []
def fldD (f : Str) : D → Option D
  | .exn c ps => if (xfs c).length = ps.length then ((xfs c).zip ps).lookup f else none
  | _ => none
def dixD (x y : D) (S : Sto) : Option D := (dicD S x).bind fun kvs => (kD y).bind fun k => valA kvs k
def dsetdD (n : Nat) (y z : D) (S : Sto) : R D := match S[n]?, kD y with
  | some (.dic kvs), some k => if kvs.length < sizeLine then (match valA kvs k with
    | some v => .ok v S
    | none => .ok z (S.set n (.dic (putA kvs k z)))) else .bad
  | _, _ => .bad
def srcOf (x : D) (S : Sto) : Option Src := match x with
  | .fl ds => some (.ds ds)
  | .tup ds => some (.ds ds)
  | .loc n => (lstAt S n).map fun _ => .lst n
  | .str z => some (.ds (z.cps.toList.map fun c => .str ⟨#[c]⟩))
  | _ => none
def Src.get (s : Src) (i : Nat) (S : Sto) : Option (Option D) := match s with
  | .lst n => (lstAt S n).map fun ds => ds[i]?
  | .ds l => some l[i]?
  | .zip n k => (lstAt S n).bind fun a => (lstAt S k).map fun b => a[i]?.bind fun x => b[i]?.map fun y => .tup [x, y]
  | .enum n => (lstAt S n).map fun ds => ds[i]?.map fun x => .tup [.int (i : Nat), x]
  | .zipF n l => (lstAt S n).map fun a => a[i]?.bind fun x => l[i]?.map fun y => .tup [x, y]
def Src.size (s : Src) (S : Sto) : Nat := match s with
  | .lst n => ((lstAt S n).getD []).length
  | .ds l => l.length
  | .zip n _ => ((lstAt S n).getD []).length
  | .enum n => ((lstAt S n).getD []).length
  | .zipF n _ => ((lstAt S n).getD []).length
mutual
def bindT : Xp → D → Env → Option Env
  | .var i, d, ρ => some (ρ.set i (some d))
  | .tup t, d, ρ => match d with
    | .tup ds => bindL t ds ρ
    | _ => none
  | .lst t, d, ρ => match d with
    | .fl ds => bindL t ds ρ
    | _ => none
  | _, _, _ => none
def bindL : Xp → List D → Env → Option Env
  | .nil, [], ρ => some ρ
  | .cons a b, d :: ds, ρ => (bindT a d ρ).bind fun ρ1 => bindL b ds ρ1
  | _, _, _ => none
end
def wipeE (ρ : Env) : List Nat → Env
  | [] => ρ
  | v :: vs => (wipeE ρ vs).set v none
def lcl (src : Src) (tg : Xp) (cond : Env → Sto → R Bool) (elt : Env → Sto → R D) (ρ : Env) : Nat → Nat → List D → Sto → R (List D)
  | 0, _, _, _ => .bad
  | n + 1, i, acc, S => match src.get i S with
    | none => .bad
    | some none => .ok acc S
    | some (some d) => match bindT tg d ρ with
      | none => .bad
      | some ρ1 => match cond ρ1 S with
        | .ok true S1 => match elt ρ1 S1 with
          | .ok y S2 => if acc.length < sizeLine then lcl src tg cond elt ρ n (i + 1) (acc ++ [y]) S2 else .bad
          | _ => .bad
        | .ok false S1 => lcl src tg cond elt ρ n (i + 1) acc S1
        | _ => .bad
def lcl2 (src : Src) (tg : Xp) (cond : Env → Sto → R Bool) (inn : Env → List D → Sto → R (List D)) (ρ : Env) : Nat → Nat → List D → Sto → R (List D)
  | 0, _, _, _ => .bad
  | n + 1, i, acc, S => match src.get i S with
    | none => .bad
    | some none => .ok acc S
    | some (some d) => match bindT tg d ρ with
      | none => .bad
      | some ρ1 => match cond ρ1 S with
        | .ok true S1 => match inn ρ1 acc S1 with
          | .ok acc2 S2 => lcl2 src tg cond inn ρ n (i + 1) acc2 S2
          | _ => .bad
        | .ok false S1 => lcl2 src tg cond inn ρ n (i + 1) acc S1
        | _ => .bad
def lcld (src : Src) (tg : Xp) (cond : Env → Sto → R Bool) (key val : Env → Sto → R D) (ρ : Env) : Nat → Nat → List (Key × D) → Sto → R (List (Key × D))
  | 0, _, _, _ => .bad
  | n + 1, i, acc, S => match src.get i S with
    | none => .bad
    | some none => .ok acc S
    | some (some d) => match bindT tg d ρ with
      | none => .bad
      | some ρ1 => match cond ρ1 S with
        | .ok true S1 => match key ρ1 S1 with
          | .ok x S2 => match val ρ1 S2 with
            | .ok y S3 => match kD x with
              | some k => if acc.length < sizeLine then lcld src tg cond key val ρ n (i + 1) (putA acc k y) S3 else .bad
              | none => .bad
            | _ => .bad
          | _ => .bad
        | .ok false S1 => lcld src tg cond key val ρ n (i + 1) acc S1
        | _ => .bad
def insF (S : Sto) (x : D) (f : Str) : Option D := match x with
  | .loc n => match S[n]? with
    | some (.ins _ fs) => fs.lookup f
    | _ => none
  | _ => none
def insM (S : Sto) (x : D) (c : Nat) (m : Str) : Bool := match x with
  | .loc n => match S[n]? with
    | some (.ins c' fs) => c' == c && (fs.lookup m).isNone
    | _ => false
  | _ => false
def setFs (f : Str) (d : D) : List (Str × D) → List (Str × D)
  | [] => [(f, d)]
  | (g, x) :: r => if g = f then (g, d) :: r else (g, x) :: setFs f d r
def insS (S : Sto) (x : D) (f : Str) (d : D) : Option Sto := match x with
  | .loc n => match S[n]? with
    | some (.ins c fs) => if fs.length < 30 then some (S.set n (.ins c (setFs f d fs))) else none
    | _ => none
  | _ => none
def permL {α : Type} (vs : List α) : List Nat → Option (List α)
  | [] => some []
  | p :: ps => (vs[p]?).bind fun v => (permL vs ps).map (v :: ·)
def fnIx (t : List (Str × Nat)) : D → Option Nat
  | .fn x => t.lookup x
  | _ => none
def enumL : Nat → List D → List D
  | _, [] => []
  | i, d :: ds => .tup [.int (i : Nat), d] :: enumL (i + 1) ds
def rangeD (lo : Int) (n : Nat) : List D := (List.range n).map fun i : Nat => .int (lo + (i : Nat))
def small62 (i : Int) : Bool := decide (-(2 ^ 62) ≤ i) && decide (i < 2 ^ 62)
def asT (r : R D) : R Bool := r.bind fun x S => R.opt (truth x S) S
def asI (r : R D) : R Int := r.bind fun x S => match x with
  | .int i => .ok i S
  | _ => .bad
mutual
noncomputable def ev (C : CallSem) (G : Nat → Option D) : Xp → Env → Sto → R D
  | .var i, ρ, S => R.opt (ρ[i]?.bind id) S
  | .glo x, _, S => R.opt (G x) S
  | .non, _, S => .ok .non S
  | .bl b, _, S => .ok (.bl b) S
  | .int i, _, S => .ok (.int i) S
  | .str x, _, S => .ok (.str x) S
  | .tyc t, _, S => .ok (.ty t) S
  | .bin op a b, ρ, S => (ev C G a ρ S).bind fun x S1 => (ev C G b ρ S1).bind fun y S2 => binD op x y S2
  | .neg a, ρ, S => (asI (ev C G a ρ S)).bind fun i S1 => .ok (.int (-i)) S1
  | .nt a, ρ, S => (asT (ev C G a ρ S)).bind fun b S1 => .ok (.bl (!b)) S1
  | .and a b, ρ, S => (ev C G a ρ S).bind fun x S1 => match truth x S1 with
    | some true => ev C G b ρ S1
    | some false => .ok x S1
    | none => .bad
  | .or a b, ρ, S => (ev C G a ρ S).bind fun x S1 => match truth x S1 with
    | some true => .ok x S1
    | some false => ev C G b ρ S1
    | none => .bad
  | .cmp op a b, ρ, S => (ev C G a ρ S).bind fun x S1 => (ev C G b ρ S1).bind fun y S2 => R.opt ((cmpD op x y S2).map .bl) S2
  | .cmp2 op op' a b c, ρ, S => (ev C G a ρ S).bind fun x S1 => (ev C G b ρ S1).bind fun y S2 => match cmpD op x y S2 with
    | some true => (ev C G c ρ S2).bind fun z S3 => R.opt ((cmpD op' y z S3).map .bl) S3
    | some false => .ok (.bl false) S2
    | none => .bad
  | .ife c a b, ρ, S => (asT (ev C G c ρ S)).bind fun t S1 => if t then ev C G a ρ S1 else ev C G b ρ S1
  | .call f es, ρ, S => (evs C G es ρ S).bind fun xs S1 => C f xs S1
  | .callk f es ks perm, ρ, S => (evs C G es ρ S).bind fun xs S1 => (evs C G ks ρ S1).bind fun ys S2 => match permL (xs ++ ys) perm with
    | some zs => C f zs S2
    | none => .bad
  | .callv t f es, ρ, S => (ev C G f ρ S).bind fun g S0 => match fnIx t g with
    | some i => (evs C G es ρ S0).bind fun xs S1 => C i xs S1
    | none => .bad
  | .callvk t f es ks perm, ρ, S => (ev C G f ρ S).bind fun g S0 => match fnIx t g with
    | some i => (evs C G es ρ S0).bind fun xs S1 => (evs C G ks ρ S1).bind fun ys S2 => match permL (xs ++ ys) perm with
      | some zs => C i zs S2
      | none => .bad
    | none => .bad
  | .dnn, _, S => mk (.dn []) S
  | .ddn es, ρ, S => (evs C G es ρ (S ++ [.dn []])).bind fun xs S1 => ddnD S.length xs S1
  | .dd es, ρ, S => (evs C G es ρ (S ++ [.dic []])).bind fun xs S1 => ddD S.length xs S1
  | .xfld f a, ρ, S => (ev C G a ρ S).bind fun x S1 => R.opt (fldD f x) S1
  | .mkx c es, ρ, S => (evs C G es ρ S).bind fun xs S1 => .ok (.exn c xs) S1
  | .bi b es, ρ, S => (evs C G es ρ S).bind fun xs S1 => biD b xs S1
  | .mt m o es, ρ, S => (ev C G o ρ S).bind fun x S1 => if isLst x S1 then (evs C G es ρ S1).bind fun xs S2 => mtD m x xs S2 else .bad
  | .dnew, _, S => mk (.dic []) S
  | .dget o k v, ρ, S => (ev C G o ρ S).bind fun x S1 => match dicD S1 x with
    | some _ => (ev C G k ρ S1).bind fun y S2 => (ev C G v ρ S2).bind fun z S3 => R.opt (dgetD x y z S3) S3
    | none => .bad
  | .dgetn o k v, ρ, S => (ev C G o ρ S).bind fun x S1 => match dnD S1 x with
    | some _ => (ev C G k ρ S1).bind fun y S2 => (ev C G v ρ S2).bind fun z S3 => R.opt (dgetnD x y z S3) S3
    | none => .bad
  | .dsetd o k v, ρ, S => (ev C G o ρ S).bind fun x S1 => match asDic x S1 with
    | some n => (ev C G k ρ S1).bind fun y S2 => (ev C G v ρ S2).bind fun z S3 => dsetdD n y z S3
    | none => .bad
  | .sumv o, ρ, S => (ev C G o ρ S).bind fun x S1 => match dicD S1 x with
    | some kvs => R.opt ((intsOf (kvs.map (·.2))).map fun ns => .int ns.sum) S1
    | none => .bad
  | .lix o e, ρ, S => (ev C G o ρ S).bind fun x S1 => if (lstD S1 x).isSome then (ev C G e ρ S1).bind fun y S2 => R.opt (lixD x y S2) S2 else .bad
  | .lset o, ρ, S => (ev C G o ρ S).bind fun x S1 => R.opt (((lstD S1 x).bind lsetL).map fun (n : Nat) => D.int n) S1
  | .gdx t e, ρ, S => (ev C G e ρ S).bind fun x S1 => match x with
    | .str z => R.opt (t.lookup z) S1
    | _ => .bad
  | .ix a b, ρ, S => (ev C G a ρ S).bind fun x S1 => (ev C G b ρ S1).bind fun y S2 => R.opt (ixD x y S2) S2
  | .sl a lo hi, ρ, S => (ev C G a ρ S).bind fun x S1 => (evp C G lo ρ S1).bind fun l S2 => (evp C G hi ρ S2).bind fun h S3 => slD x l h S3
  | .frzv a, ρ, S => trim S ((ev C G a ρ S).bind fun x S1 => frzD x S1)
  | .rev a, ρ, S => (ev C G a ρ S).bind fun x S1 => revD x S1
  | .tup es, ρ, S => (evs C G es ρ S).bind fun xs S1 => if xs.length ≤ 1000 then .ok (.tup xs) S1 else .bad
  | .lst es, ρ, S => (evs C G es ρ S).bind fun xs S1 => if xs.length ≤ 1000 then mk (.lst xs) S1 else .bad
  | .lc it tg elt cond vs, ρ, S => (evi C G it ρ S).bind fun src S1 =>
    (lcl src tg (fun ρ1 S2 => asT (ev C G cond ρ1 S2)) (fun ρ1 S2 => ev C G elt ρ1 S2) (wipeE ρ vs) (src.size S1 + 1) 0 [] S1).bind fun ds S2 => mk (.lst ds) S2
  | .lc2 it tg cond it1 tg1 cond1 elt vs vs1, ρ, S => (evi C G it ρ S).bind fun src S1 =>
    (lcl2 src tg (fun ρ1 S2 => asT (ev C G cond ρ1 S2)) (fun ρ1 acc S2 => match evi C G it1 ρ1 S2 with
      | .ok src1 S3 => lcl src1 tg1 (fun ρ2 S4 => asT (ev C G cond1 ρ2 S4)) (fun ρ2 S4 => ev C G elt ρ2 S4) (wipeE ρ1 vs1) (src1.size S3 + 1) 0 acc S3
      | _ => .bad) (wipeE ρ vs) (src.size S1 + 1) 0 [] S1).bind fun ds S2 => mk (.lst ds) S2
  | .prm f es, ρ, S => (evs C G es ρ S).bind fun xs S1 => f xs S1
  | .fld f o, ρ, S => (ev C G o ρ S).bind fun x S1 => R.opt (insF S1 x f) S1
  | .meth m c i o es, ρ, S => (ev C G o ρ S).bind fun x S1 => if insM S1 x c m then (evs C G es ρ S1).bind fun xs S2 => C i (x :: xs) S2 else .bad
  | .mko c i es, ρ, S => (evs C G es ρ S).bind fun xs S1 => (C i (.loc S1.length :: xs) (S1 ++ [.ins c []])).bind fun r S2 => match r with
    | .non => .ok (.loc S1.length) S2
    | _ => .bad
  | .lcd it tg k v cond vs, ρ, S => (evi C G it ρ S).bind fun src S1 =>
    (lcld src tg (fun ρ1 S2 => asT (ev C G cond ρ1 S2)) (fun ρ1 S2 => ev C G k ρ1 S2) (fun ρ1 S2 => ev C G v ρ1 S2) (wipeE ρ vs) (src.size S1 + 1) 0 [] S1).bind fun kvs S2 => mk (.dic kvs) S2
  | _, _, _ => .bad
noncomputable def evs (C : CallSem) (G : Nat → Option D) : Xp → Env → Sto → R (List D)
  | .nil, _, S => .ok [] S
  | .cons a b, ρ, S => (ev C G a ρ S).bind fun x S1 => (evs C G b ρ S1).bind fun xs S2 => .ok (x :: xs) S2
  | _, _, _ => .bad
noncomputable def evp (C : CallSem) (G : Nat → Option D) : Xp → Env → Sto → R (Option Int)
  | .nil, _, S => .ok none S
  | .cons a _, ρ, S => (asI (ev C G a ρ S)).bind fun i S1 => .ok (some i) S1
  | _, _, _ => .bad
noncomputable def evi (C : CallSem) (G : Nat → Option D) : Xp → Env → Sto → R Src
  | .itr a, ρ, S => (ev C G a ρ S).bind fun x S1 => R.opt (srcOf x S1) S1
  | .dit o, ρ, S => (ev C G o ρ S).bind fun x S1 => match x with
    | .fd ks ds => .ok (.ds ((ks.zip ds).map fun kv => .tup [kDi kv.1, kv.2])) S1
    | _ => .bad
  | .dks o, ρ, S => (ev C G o ρ S).bind fun x S1 => match x with
    | .fd ks ds => .ok (.ds ((ks.zip ds).map fun kv => kDi kv.1)) S1
    | _ => .bad
  | .dksn o, ρ, S => (ev C G o ρ S).bind fun x S1 => match x with
    | .fm ks ds => .ok (.ds ((ks.zip ds).map fun kv => nD kv.1)) S1
    | _ => .bad
  | .dvs o, ρ, S => (ev C G o ρ S).bind fun x S1 => match x with
    | .fd ks ds => .ok (.ds ((ks.zip ds).map fun kv => kv.2)) S1
    | _ => .bad
  | .rng1 a, ρ, S => (asI (ev C G a ρ S)).bind fun i S1 => if small62 i then .ok (.ds (rangeD 0 i.toNat)) S1 else .bad
  | .rng2 a b, ρ, S => (asI (ev C G a ρ S)).bind fun i S1 => (asI (ev C G b ρ S1)).bind fun j S2 => if small62 i && small62 j then .ok (.ds (rangeD i (j - i).toNat)) S2 else .bad
  | .zip2 a b, ρ, S => (ev C G a ρ S).bind fun x S1 => (ev C G b ρ S1).bind fun y S2 => match x, y with
    | .loc n, .loc k => match lstAt S2 n, lstAt S2 k with
      | some _, some _ => .ok (.zip n k) S2
      | _, _ => .bad
    | .tup xs, .tup ys => .ok (.ds ((xs.zip ys).map fun p => .tup [p.1, p.2])) S2
    | .fl xs, .fl ys => .ok (.ds ((xs.zip ys).map fun p => .tup [p.1, p.2])) S2
    | .fl xs, .tup ys => .ok (.ds ((xs.zip ys).map fun p => .tup [p.1, p.2])) S2
    | .loc n, .fl ys => match lstAt S2 n with
      | some _ => .ok (.zipF n ys) S2
      | none => .bad
    | _, _ => .bad
  | .enum a, ρ, S => (ev C G a ρ S).bind fun x S1 => match x with
    | .fl ds => .ok (.ds (enumL 0 ds)) S1
    | .loc n => match lstAt S1 n with
      | some _ => .ok (.enum n) S1
      | none => .bad
    | _ => .bad
  | .itp f es, ρ, S => (evs C G es ρ S).bind fun xs S1 => f xs S1
  | _, _, _ => .bad
end
inductive Rs where
  | nx (ρ : Env) (S : Sto) | rt (d : D) (S : Sto) | bk (ρ : Env) (S : Sto) | ct (ρ : Env) (S : Sto) | exc (c : Nat) (p : List D) (ρ : Env) (S : Sto) | bad
inductive Sx where
  | pass | ex (e : Xp) | asg (t e : Xp) | par (js : List Nat) (es : Xp) | aug (i : Nat) (op : Operator) (e : Xp) | augx (o i : Xp) (op : Operator) (e : Xp)
  | iff (c : Xp) (a b : Sx) | whl (c : Xp) (b : Sx) | for_ (t it : Xp) (b : Sx) | ret (e : Xp) | brk | cont | rse (c : Nat) (e : Xp)
  | tryS (b : Sx) (cs : List (Nat × Bool)) (s : Sx)
  | tryA (b : Sx) (o : Option Nat) (cs : List (Nat × Bool)) (s : Sx)
  | asgs (ts es : Xp) | fset (o : Xp) (f : Str) (e : Xp)
  | fz (i : Nat) (b : Sx) | wip (i : Nat) (b : Sx) | nil | cons (a b : Sx)
def ofR {α : Type} (r : R α) (ρ : Env) (f : α → Sto → Rs) : Rs := match r with
  | .ok a S => f a S
  | .exc c p S => .exc c p ρ S
  | .bad => .bad
@[simp] theorem ofR_ok {α : Type} (a : α) (S : Sto) (ρ : Env) (f : α → Sto → Rs) : ofR (.ok a S) ρ f = f a S := rfl
@[simp] theorem ofR_bad {α : Type} (ρ : Env) (f : α → Sto → Rs) : ofR (.bad : R α) ρ f = .bad := rfl
@[simp] theorem ofR_exc {α : Type} (c : Nat) (p : List D) (S : Sto) (ρ : Env) (f : α → Sto → Rs) : ofR (.exc c p S : R α) ρ f = .exc c p ρ S := rfl
noncomputable def setT (C : CallSem) (G : Nat → Option D) (t : Xp) (d : D) (ρ : Env) (S : Sto) : Rs := match t with
  | .ix o i => ofR (ev C G o ρ S) ρ fun x S1 => ofR (ev C G i ρ S1) ρ fun y S2 => match setIx x y d S2 with
    | some S3 => .nx ρ S3
    | none => .bad
  | .sl o l h => ofR (ev C G o ρ S) ρ fun x S1 => ofR (evp C G l ρ S1) ρ fun a S2 => ofR (evp C G h ρ S2) ρ fun b S3 => match setSl x a b d S3 with
    | some S4 => .nx ρ S4
    | none => .bad
  | t => match bindT t d ρ with
    | some ρ1 => .nx ρ1 S
    | none => .bad
noncomputable def setTs (C : CallSem) (G : Nat → Option D) : Xp → List D → Env → Sto → Rs
  | .nil, [], ρ, S => .nx ρ S
  | .cons t ts, d :: ds, ρ, S => match setT C G t d ρ S with
    | .nx ρ1 S1 => setTs C G ts ds ρ1 S1
    | r => r
  | _, _, _, _ => .bad
def parE : List Nat → List D → Env → Option Env
  | [], [], ρ => some ρ
  | j :: js, d :: ds, ρ => parE js ds (ρ.set j (some d))
  | _, _, _ => none
def whl (c : Env → Sto → R Bool) (b : Env → Sto → Rs) : Nat → Env → Sto → Rs
  | 0, _, _ => .bad
  | n + 1, ρ, S => ofR (c ρ S) ρ fun t S1 => if t then (match b ρ S1 with
    | .nx ρ2 S2 => whl c b n ρ2 S2
    | .ct ρ2 S2 => whl c b n ρ2 S2
    | .bk ρ2 S2 => .nx ρ2 S2
    | r => r) else .nx ρ S1
def forl (src : Src) (tg : Xp) (b : Env → Sto → Rs) : Nat → Nat → Env → Sto → Rs
  | 0, _, _, _ => .bad
  | n + 1, i, ρ, S => match src.get i S with
    | none => .bad
    | some none => .nx ρ S
    | some (some d) => match bindT tg d ρ with
      | none => .bad
      | some ρ1 => match b ρ1 S with
        | .nx ρ2 S2 => forl src tg b n (i + 1) ρ2 S2
        | .ct ρ2 S2 => forl src tg b n (i + 1) ρ2 S2
        | .bk ρ2 S2 => .nx ρ2 S2
        | r => r
def envLt (k : Nat) (ρ : Env) : Bool := ρ.all fun o => match o with
  | some d => d.lt k
  | none => true
def asE (o : Option Nat) (d : D) (ρ : Env) : Env := match o with
  | some i => ρ.set i (some d)
  | none => ρ
def unO (o : Option Nat) (ρ : Env) : Env := match o with
  | some i => ρ.set i none
  | none => ρ
def suiteR (o : Option Nat) : Rs → Rs
  | .nx ρ S => .nx (unO o ρ) S
  | .bk ρ S => .bk (unO o ρ) S
  | .ct ρ S => .ct (unO o ρ) S
  | .rt d S => .rt d S
  | .exc _ _ _ _ => .bad
  | .bad => .bad
noncomputable def fzE (i : Nat) (S : Sto) (ρ : Env) (S1 : Sto) : Rs := match ρ[i]?.bind id with
  | some d => match frzD d S1 with
    | .ok d2 S2 => .nx (ρ.set i (some d2)) (cutS S (envLt S.length (ρ.set i (some d2))) S2)
    | _ => .bad
  | none => .bad
noncomputable def run (W : Nat) (C : CallSem) (G : Nat → Option D) : Sx → Env → Sto → Rs
  | .pass, ρ, S => .nx ρ S
  | .ex e, ρ, S => ofR (ev C G e ρ S) ρ fun _ S1 => .nx ρ S1
  | .asg t e, ρ, S => ofR (ev C G e ρ S) ρ fun d S1 => setT C G t d ρ S1
  | .par js es, ρ, S => ofR (evs C G es ρ S) ρ fun ds S1 => match parE js ds ρ with
    | some ρ1 => .nx ρ1 S1
    | none => .bad
  | .aug i op e, ρ, S => match ρ[i]?.bind id with
    | some x => ofR (ev C G e ρ S) ρ fun y S1 => ofR (augD op x y S1) ρ fun z S2 => .nx (ρ.set i (some z)) S2
    | none => .bad
  | .augx o i op e, ρ, S => ofR (ev C G o ρ S) ρ fun x S1 => ofR (ev C G i ρ S1) ρ fun y S2 => match dixD x y S2 with
    | some old => ofR (ev C G e ρ S2) ρ fun z S3 => ofR (augD op old z S3) ρ fun r S4 => match setIx x y r S4 with
      | some S5 => .nx ρ S5
      | none => .bad
    | none => .bad
  | .asgs ts es, ρ, S => ofR (evs C G es ρ S) ρ fun ds S1 => setTs C G ts ds ρ S1
  | .fset o f e, ρ, S => ofR (ev C G e ρ S) ρ fun d S1 => ofR (ev C G o ρ S1) ρ fun x S2 => match insS S2 x f d with
    | some S3 => .nx ρ S3
    | none => .bad
  | .iff c a b, ρ, S => ofR (asT (ev C G c ρ S)) ρ fun t S1 => if t then run W C G a ρ S1 else run W C G b ρ S1
  | .whl c b, ρ, S => whl (fun ρ S => asT (ev C G c ρ S)) (fun ρ S => run W C G b ρ S) W ρ S
  | .for_ t it b, ρ, S => ofR (evi C G it ρ S) ρ fun src S1 => forl src t (fun ρ S => run W C G b ρ S) (src.size S1 + 1) 0 ρ S1
  | .ret e, ρ, S => ofR (ev C G e ρ S) ρ fun d S1 => .rt d S1
  | .brk, ρ, S => .bk ρ S
  | .cont, ρ, S => .ct ρ S
  | .rse c e, ρ, S => ofR (evs C G e ρ S) ρ fun p S1 => .exc c p ρ S1
  | .tryS b cs s, ρ, S => match run W C G b ρ S with
    | .exc c' p ρ1 S1 => match cs.lookup c' with
      | some true => run W C G s ρ1 S1
      | some false => .exc c' p ρ1 S1
      | none => .bad
    | r => r
  | .tryA b o cs s, ρ, S => match run W C G b ρ S with
    | .exc c' p ρ1 S1 => match cs.lookup c' with
      | some true => suiteR o (run W C G s (asE o (.exn c' p) ρ1) S1)
      | some false => .exc c' p ρ1 S1
      | none => .bad
    | r => r
  | .fz i b, ρ, S => match run W C G b ρ S with
    | .nx ρ1 S1 => fzE i S ρ1 S1
    | r => r
  | .wip i b, ρ, S => run W C G b (ρ.set i none) S
  | .nil, ρ, S => .nx ρ S
  | .cons a b, ρ, S => match run W C G a ρ S with
    | .nx ρ1 S1 => run W C G b ρ1 S1
    | r => r
structure Fd where
  np : Nat
  n : Nat
  body : Sx
def startE (n : Nat) (ds : List D) : Env := ds.map some ++ List.replicate (n - ds.length) none
def endR (r : Rs) : R D := match r with
  | .nx _ S => .ok .non S
  | .rt d S => .ok d S
  | .exc c p _ S => .exc c p S
  | _ => .bad
noncomputable def callF (W : Nat) (G : Nat → Option D) (T : Nat → Option Fd) : Nat → CallSem
  | 0, _, _, _ => .bad
  | k + 1, f, ds, S => match T f with
    | some fd => if ds.length = fd.np then trim S (endR (run W (callF W G T k) G fd.body (startE fd.n ds) S)) else .bad
    | none => .bad
end CC
namespace CC
open PySem PySem.Spec PyProof.Rows L2
structure KW where
  f : PySem.W.Frag
  w : World
  hx : Option Addr
def hxA (A : Around) : Option Addr := match A.handled with
  | some (.ref a) => some a
  | _ => none
theorem hxA_none {A : Around} (h : A.handled = none) : hxA A = none := by unfold hxA; rw [h]
instance : Coe KW PySem.W.Frag := ⟨KW.f⟩
abbrev _root_.L2.Cx.kw (X : Cx) : KW := ⟨X.K, X.w, hxA X.A⟩
def SqU (K : PySem.W.Frag) (H : Hp) (a : Addr) (xs : List V) : Prop :=
  H a = some (.tup xs) ∨ ∃ (o : Obj) (its : Array Value) (n : Nat), K.lookup a = some o ∧ o.cls = .type "tuple" ∧ o.data = .seq its n ∧ its.size ≤ sizeLine ∧ Vals xs its.toList
theorem SqU.t {K : PySem.W.Frag} {H : Hp} {a : Addr} {xs : List V} (h : SqU K H a xs) : SqT K H a xs := by
  rcases h with h | h
  · exact .inl (.inl h)
  · exact .inr h
abbrev Mp := List (Addr × Bool)
def exNames : List Str := ["CityError", "InvalidCity", "InvalidStreet", "InvalidStreets", "InvalidPoint", "InvalidDrive", "InvalidCount", "InvalidText", "NothingToUndo", "MissingDirection", "TooLarge"]
def XcO (cls : Value) (d : Option Addr) (a : Addr) : HO := .ext fun h => ∃ (oe : Obj) (vs : Array Value), h.get? a = some oe ∧ L2N.Zn cls d oe ∧ oe.data = .fields vs
def XFld (H : Hp) (c : Nat) (d : Option Addr) (vs : List V) : Prop := (d = none ∧ vs = []) ∨ ∃ dd, d = some dd ∧ H dd = some (.xd ((xfs c).zip vs)) ∧ (xfs c).length = vs.length ∧ vs ≠ []
def entN (w : World) (x : NestedKey × Addr × Value) : DictEntry := ⟨x.1.hash w, .ref x.2.1, x.2.2⟩
abbrev XV : List (NestedKey × Addr × V) → List (NestedKey × Addr × Value) → Prop := Paired fun p q => p.1 = q.1 ∧ p.2.1 = q.2.1 ∧ RelV p.2.2 q.2.2
def rawN (w : World) (h : Heap) (a : Addr) (ys : List (NestedKey × Addr × Value)) : Prop := ∃ o es ep, h.get? a = some o ∧ o.ExactDict ∧ o.data = .dict es ep ∧ es.toList = ys.map (entN w) ∧ (ys.map (·.1)).Nodup
def DnO (w : World) (a : Addr) (xs : List (NestedKey × Addr × V)) : HO := .ext fun h => xs.length ≤ sizeLine ∧ (∀ x ∈ xs, x.1.depth ≤ 8) ∧ (a == sysModules) = false ∧ ∃ ys, XV xs ys ∧ rawN w h a ys
def BdO (w : World) (a : Addr) (vs : List (Bool × V)) : HO := .ext fun h => (a == sysModules) = false ∧ ∃ us, KV vs us ∧ ∀ P : Program, h.DictOf (PpSet.boolK P w) a us
def isXO : HO → Prop
  | .xd _ => True
  | _ => False
def insNames : List Str := ["KeptGrid", "LiveCity"]
mutual
inductive Rp (K : KW) (mg : Str → Option Value) (m : Mp) (H : Hp) : D → V → Prop
  | non : Rp K mg m H .non .non
  | bl (b : Bool) : Rp K mg m H (.bl b) (.bl b)
  | int (i : Int) : Rp K mg m H (.int i) (.int i)
  | str (x : Str) : Rp K mg m H (.str x) (.str x)
  | ty (t : String) : Rp K mg m H (.ty t) (.ty t)
  | fn {x : Str} {a : Addr} (h : mg x = some (.ref a)) : Rp K mg m H (.fn x) (.ref a)
  | tup {a : Addr} {vs : List V} {ds : List D} (h : SqU K H a vs) (hs : Rps K mg m H ds vs) : Rp K mg m H (.tup ds) (.ref a)
  | loc {n : Nat} {a : Addr} {b : Bool} (h : m[n]? = some (a, b)) : Rp K mg m H (.loc n) (.ref a)
  | fl {a : Addr} {o : Obj} {vs : List V} {ds : List D} (h : H a = some (.frz o (.lst vs))) (hs : Rps K mg m H ds vs) : Rp K mg m H (.fl ds) (.ref a)
  | fd {a : Addr} {o : Obj} {kvs : List (Key × V)} {ks : List Key} {ds : List D} (h : H a = some (.frz o (.dK kvs))) (hk : ks = kvs.map (·.1)) (hs : Rps K mg m H ds (kvs.map (·.2))) : Rp K mg m H (.fd ks ds) (.ref a)
  | exn {c : Nat} {x : Str} {A a : Addr} {oe : Obj} {d : Option Addr} {ps : List D} {vs : List V} (h1 : exNames[c]? = some x) (h2 : mg x = some (.ref A)) (h : H a = some (.frz oe (XcO (.ref A) d a))) (hf : XFld H c d vs) (hs : Rps K mg m H ps vs) : Rp K mg m H (.exn c ps) (.ref a)
  | cls {c : Nat} {x : Str} {A : Addr} (h1 : exNames[c]? = some x) (h2 : mg x = some (.ref A)) : Rp K mg m H (.cls c) (.ref A)
  | fm {a : Addr} {o : Obj} {xs : List (NestedKey × Addr × V)} {ks : List NestedKey} {ds : List D} (h : H a = some (.frz o (DnO K.w a xs))) (hk : ks = xs.map (·.1)) (hq : Rps K mg m H (nDs ks) (xs.map fun x => V.ref x.2.1)) (hs : Rps K mg m H ds (xs.map (·.2.2))) : Rp K mg m H (.fm ks ds) (.ref a)
  | bd {a : Addr} {o : Obj} {x y : V} {ds : List D} (h : H a = some (.frz o (BdO K.w a [(true, x), (false, y)]))) (hs : Rps K mg m H ds [x, y]) : Rp K mg m H (.bd ds) (.ref a)
  | bm {a : Addr} {o : Obj} {xs : List (NestedKey × Addr × V)} {ks : List D} {ds : List D} (h : H a = some (.frz o (DnO K.w a xs))) (hk : kBs ks = some (xs.map (·.1))) (hq : Rps K mg m H ks (xs.map fun x => V.ref x.2.1)) (hs : Rps K mg m H ds (xs.map (·.2.2))) : Rp K mg m H (.bd [.tup ks, .tup ds, .non]) (.ref a)
inductive Rps (K : KW) (mg : Str → Option Value) (m : Mp) (H : Hp) : List D → List V → Prop
  | nil : Rps K mg m H [] []
  | cons {d : D} {v : V} {ds : List D} {vs : List V} (h : Rp K mg m H d v) (hs : Rps K mg m H ds vs) : Rps K mg m H (d :: ds) (v :: vs)
end
structure Le (m m' : Mp) (H H' : Hp) : Prop where
  pre : ∀ (n : Nat) (a : Addr × Bool), m[n]? = some a → m'[n]? = some a
  tup : ∀ (a : Addr) (vs : List V), H a = some (.tup vs) → H' a = some (.tup vs)
  fz : ∀ (a : Addr) (o : Obj) (u : HO), H a = some (.frz o u) → H' a = some (.frz o u)
  ex : ∀ (a : Addr) (o : HO), H a = some o → isXO o → H' a = some o
  frame : ∀ (a : Addr) (o : HO), H a = some o → (a, false) ∉ m → H' a = some o ∧ (a, false) ∉ m'
structure Lt (m m' : Mp) (H H' : Hp) : Prop where
  pre : ∀ (n : Nat) (a : Addr × Bool), m[n]? = some a → m'[n]? = some a
  tup : ∀ (a : Addr) (vs : List V), H a = some (.tup vs) → H' a = some (.tup vs)
  fz : ∀ (a : Addr) (o : Obj) (u : HO), H a = some (.frz o u) → H' a = some (.frz o u)
  ex : ∀ (a : Addr) (o : HO), H a = some o → isXO o → H' a = some o
theorem Le.lt {m m' : Mp} {H H' : Hp} (l : Le m m' H H') : Lt m m' H H' := ⟨l.pre, l.tup, l.fz, l.ex⟩
theorem Lt.refl (m : Mp) (H : Hp) : Lt m m H H := ⟨fun _ _ h => h, fun _ _ h => h, fun _ _ _ h => h, fun _ _ h _ => h⟩
theorem Lt.trans {m m1 m2 : Mp} {H H1 H2 : Hp} (a : Lt m m1 H H1) (b : Lt m1 m2 H1 H2) : Lt m m2 H H2 := ⟨fun n x h => b.pre n x (a.pre n x h), fun x vs h => b.tup x vs (a.tup x vs h), fun x o u h => b.fz x o u (a.fz x o u h), fun x o h i => b.ex x o (a.ex x o h i) i⟩
theorem Le.refl (m : Mp) (H : Hp) : Le m m H H := ⟨fun _ _ h => h, fun _ _ h => h, fun _ _ _ h => h, fun _ _ h _ => h, fun _ _ h n => ⟨h, n⟩⟩
theorem Le.trans {m m1 m2 : Mp} {H H1 H2 : Hp} (a : Le m m1 H H1) (b : Le m1 m2 H1 H2) : Le m m2 H H2 :=
  ⟨fun n x h => b.pre n x (a.pre n x h), fun x vs h => b.tup x vs (a.tup x vs h), fun x o u h => b.fz x o u (a.fz x o u h), fun x o h i => b.ex x o (a.ex x o h i) i, fun x o h n => let ⟨h1, n1⟩ := a.frame x o h n; b.frame x o h1 n1⟩
section
variable {K : KW} {mg : Str → Option Value} {m m' : Mp} {H H' : Hp}
theorem sqT_lt (l : Lt m m' H H') {a : Addr} {vs : List V} (h : SqU K H a vs) : SqU K H' a vs := by
  rcases h with h | h
  · exact .inl (l.tup a vs h)
  · exact .inr h
mutual
theorem Rp.mov (l : Lt m m' H H') : ∀ {d : D} {v : V}, Rp K mg m H d v → Rp K mg m' H' d v
  | _, _, .non => .non
  | _, _, .bl b => .bl b
  | _, _, .int i => .int i
  | _, _, .str x => .str x
  | _, _, .ty t => .ty t
  | _, _, .fn h => .fn h
  | _, _, .tup h hs => .tup (sqT_lt l h) (Rps.mov l hs)
  | _, _, .loc h => .loc (l.pre _ _ h)
  | _, _, .fl h hs => .fl (l.fz _ _ _ h) (Rps.mov l hs)
  | _, _, .fd h hk hs => .fd (l.fz _ _ _ h) hk (Rps.mov l hs)
  | _, _, .fm h hk hq hs => .fm (l.fz _ _ _ h) hk (Rps.mov l hq) (Rps.mov l hs)
  | _, _, .bd h hs => .bd (l.fz _ _ _ h) (Rps.mov l hs)
  | _, _, .bm h hk hq hs => .bm (l.fz _ _ _ h) hk (Rps.mov l hq) (Rps.mov l hs)
  | _, _, .exn h1 h2 h hf hs => .exn h1 h2 (l.fz _ _ _ h) (hf.imp id fun ⟨dd, e, g, z⟩ => ⟨dd, e, l.ex _ _ g trivial, z⟩) (Rps.mov l hs)
  | _, _, .cls h1 h2 => .cls h1 h2
theorem Rps.mov (l : Lt m m' H H') : ∀ {ds : List D} {vs : List V}, Rps K mg m H ds vs → Rps K mg m' H' ds vs
  | _, _, .nil => .nil
  | _, _, .cons h hs => .cons (Rp.mov l h) (Rps.mov l hs)
end
theorem Rp.mono (l : Le m m' H H') {d : D} {v : V} (h : Rp K mg m H d v) : Rp K mg m' H' d v := h.mov l.lt
theorem Rps.mono (l : Le m m' H H') {ds : List D} {vs : List V} (h : Rps K mg m H ds vs) : Rps K mg m' H' ds vs := h.mov l.lt
theorem Rps.length : ∀ {ds : List D} {vs : List V}, Rps K mg m H ds vs → vs.length = ds.length
  | _, _, .nil => rfl
  | _, _, .cons _ hs => by rw [List.length_cons, List.length_cons, Rps.length hs]
theorem Rps.get : ∀ {ds : List D} {vs : List V} {i : Nat} {d : D}, Rps K mg m H ds vs → ds[i]? = some d → ∃ v, vs[i]? = some v ∧ Rp K mg m H d v
  | _, _, _, _, .nil, e => by simp at e
  | _, _, 0, _, .cons h _, e => by simp at e; subst e; exact ⟨_, rfl, h⟩
  | _, _, i + 1, d, .cons _ hs, e => by
    obtain ⟨v, h1, h2⟩ := Rps.get (i := i) (d := d) hs (by simpa using e)
    exact ⟨v, by simpa using h1, h2⟩
theorem Rps.append : ∀ {ds es : List D} {vs ws : List V}, Rps K mg m H ds vs → Rps K mg m H es ws → Rps K mg m H (ds ++ es) (vs ++ ws)
  | _, _, _, _, .nil, s => s
  | _, _, _, _, .cons h hs, s => .cons h (Rps.append hs s)
theorem Rps.take : ∀ {ds : List D} {vs : List V} (n : Nat), Rps K mg m H ds vs → Rps K mg m H (ds.take n) (vs.take n)
  | _, _, 0, _ => .nil
  | _, _, _ + 1, .nil => .nil
  | _, _, n + 1, .cons h hs => .cons h (Rps.take n hs)
theorem Rps.drop : ∀ {ds : List D} {vs : List V} (n : Nat), Rps K mg m H ds vs → Rps K mg m H (ds.drop n) (vs.drop n)
  | _, _, 0, h => h
  | _, _, _ + 1, .nil => .nil
  | _, _, n + 1, .cons _ hs => Rps.drop n hs
theorem Rps.set {d : D} {v : V} (r : Rp K mg m H d v) : ∀ {ds : List D} {vs : List V} (i : Nat), Rps K mg m H ds vs → Rps K mg m H (ds.set i d) (vs.set i v)
  | _, _, _, .nil => .nil
  | _, _, 0, .cons _ hs => .cons r hs
  | _, _, i + 1, .cons h hs => .cons h (Rps.set r i hs)
theorem Rps.reverse : ∀ {ds : List D} {vs : List V}, Rps K mg m H ds vs → Rps K mg m H ds.reverse vs.reverse
  | _, _, .nil => .nil
  | _, _, .cons h hs => by
    rw [List.reverse_cons, List.reverse_cons]
    exact Rps.append (Rps.reverse hs) (.cons h .nil)
theorem Rps.flatten {ds : List D} {vs : List V} (h : Rps K mg m H ds vs) : ∀ k : Nat, Rps K mg m H (List.replicate k ds).flatten (List.replicate k vs).flatten
  | 0 => .nil
  | k + 1 => by
    rw [List.replicate_succ, List.replicate_succ, List.flatten_cons, List.flatten_cons]
    exact Rps.append h (Rps.flatten h k)
theorem Rps.cut {ds : List D} {vs : List V} (h : Rps K mg m H ds vs) (lo hi : Option Int) : Rps K mg m H (CC.cut ds lo hi) (cutV vs lo hi) := by
  unfold CC.cut cutV
  rw [h.length]
  exact Rps.take _ (Rps.drop _ h)
theorem Rps.atI {ds : List D} {vs : List V} {i : Int} {d : D} (h : Rps K mg m H ds vs) (e : L2.atI ds i = some d) : ∃ v, L2.atI vs i = some v ∧ Rp K mg m H d v := by
  unfold L2.atI at e ⊢
  rw [h.length]
  cases q : ixN ds.length i with
  | none => rw [q] at e; simp at e
  | some j =>
    rw [q] at e
    obtain ⟨v, h1, h2⟩ := h.get (i := j) (d := d) (by simpa using e)
    exact ⟨v, by simpa using h1, h2⟩
theorem Rps.ints : ∀ {ds : List D} {vs : List V} {ns : List Int}, Rps K mg m H ds vs → intsOf ds = some ns → vs = ns.map V.int
  | _, _, _, .nil, e => by cases e; rfl
  | .int i :: r, _, ns, .cons (.int _) hs, e => by
    unfold intsOf at e
    cases q : intsOf r with
    | none => rw [q] at e; cases e
    | some l =>
      rw [q] at e
      cases e
      rw [Rps.ints hs q]
      rfl
  | .non :: _, _, _, .cons _ _, e => by cases e
  | .bl _ :: _, _, _, .cons _ _, e => by cases e
  | .str _ :: _, _, _, .cons _ _, e => by cases e
  | .tup _ :: _, _, _, .cons _ _, e => by cases e
  | .loc _ :: _, _, _, .cons _ _, e => by cases e
  | .ty _ :: _, _, _, .cons _ _, e => by cases e
  | .fn _ :: _, _, _, .cons _ _, e => by cases e
  | .fl _ :: _, _, _, .cons _ _, e => by cases e
  | .fd _ _ :: _, _, _, .cons _ _, e => by cases e
  | .exn _ _ :: _, _, _, .cons _ _, e => by cases e
  | .cls _ :: _, _, _, .cons _ _, e => by cases e
  | .fm _ _ :: _, _, _, .cons _ _, e => by cases e
  | .bd _ :: _, _, _, .cons _ _, e => by cases e
theorem Rps.bls : ∀ {ds : List D} {vs : List V} {ns : List Bool}, Rps K mg m H ds vs → blsOf ds = some ns → vs = ns.map V.bl
  | _, _, _, .nil, e => by cases e; rfl
  | .bl i :: r, _, ns, .cons (.bl _) hs, e => by
    unfold blsOf at e
    cases q : blsOf r with
    | none => rw [q] at e; cases e
    | some l =>
      rw [q] at e
      cases e
      rw [Rps.bls hs q]
      rfl
  | .non :: _, _, _, .cons _ _, e => by cases e
  | .int _ :: _, _, _, .cons _ _, e => by cases e
  | .str _ :: _, _, _, .cons _ _, e => by cases e
  | .tup _ :: _, _, _, .cons _ _, e => by cases e
  | .loc _ :: _, _, _, .cons _ _, e => by cases e
  | .ty _ :: _, _, _, .cons _ _, e => by cases e
  | .fn _ :: _, _, _, .cons _ _, e => by cases e
  | .fl _ :: _, _, _, .cons _ _, e => by cases e
  | .fd _ _ :: _, _, _, .cons _ _, e => by cases e
  | .exn _ _ :: _, _, _, .cons _ _, e => by cases e
  | .cls _ :: _, _, _, .cons _ _, e => by cases e
  | .fm _ _ :: _, _, _, .cons _ _, e => by cases e
  | .bd _ :: _, _, _, .cons _ _, e => by cases e
end
def SqF (K : PySem.W.Frag) (H : Hp) (a : Addr × Bool) (xs : List V) : Prop :=
  (a.2 = false ∧ ∃ o, H a.1 = some (.frz o (.lst xs))) ∨ (a.2 = true ∧ ∃ (o : Obj) (its : Array Value) (n : Nat), K.lookup a.1 = some o ∧ o.cls = .type "list" ∧ o.dict = none ∧ o.data = .seq its n ∧ its.size ≤ sizeLine ∧ Vals xs its.toList)
theorem SqF.sq {K : PySem.W.Frag} {H : Hp} {a : Addr × Bool} {xs : List V} (h : SqF K H a xs) : SqL K H a.1 xs := by
  rcases h with ⟨_, o, h⟩ | ⟨_, h⟩
  · exact .inl (.inr ⟨o, h⟩)
  · exact .inr h
def Kvs (K : KW) (mg : Str → Option Value) (m : Mp) (H : Hp) (kvs : List (Key × D)) (ks : List (Key × V)) : Prop := kvs.map (·.1) = ks.map (·.1) ∧ Rps K mg m H (kvs.map (·.2)) (ks.map (·.2))
def NKvs (K : KW) (mg : Str → Option Value) (m : Mp) (H : Hp) (kvs : List (NestedKey × D)) (xs : List (NestedKey × Addr × V)) : Prop :=
  kvs.map (·.1) = xs.map (·.1) ∧ Rps K mg m H (nDs (xs.map (·.1))) (xs.map fun x => V.ref x.2.1) ∧ Rps K mg m H (kvs.map (·.2)) (xs.map (·.2.2))
theorem NKvs.mov {K : KW} {mg : Str → Option Value} {m m' : Mp} {H H' : Hp} (l : Lt m m' H H') {kvs : List (NestedKey × D)} {xs : List (NestedKey × Addr × V)} (h : NKvs K mg m H kvs xs) : NKvs K mg m' H' kvs xs := ⟨h.1, h.2.1.mov l, h.2.2.mov l⟩
def Ins (K : KW) (mg : Str → Option Value) (m : Mp) (H : Hp) (c : Nat) (fs : List (Str × D)) (us : Addr × Addr × List (Str × V)) : Prop :=
  (∃ x, insNames[c]? = some x ∧ mg x = some (.ref us.1)) ∧ fs.map (·.1) = us.2.2.map (·.1) ∧ Rps K mg m H (fs.map (·.2)) (us.2.2.map (·.2))
theorem Ins.mov {K : KW} {mg : Str → Option Value} {m m' : Mp} {H H' : Hp} (l : Lt m m' H H') {c : Nat} {fs : List (Str × D)} {us : Addr × Addr × List (Str × V)} (h : Ins K mg m H c fs us) : Ins K mg m' H' c fs us := ⟨h.1, h.2.1, h.2.2.mov l⟩
def RO (K : KW) (mg : Str → Option Value) (m : Mp) (H : Hp) (so : SO) (a : Addr × Bool) : Prop := match so with
  | .lst ds => ∃ vs, a.2 = false ∧ H a.1 = some (.lst vs) ∧ Rps K mg m H ds vs
  | .frz ds => ∃ vs, SqF K H a vs ∧ Rps K mg m H ds vs
  | .dic kvs => ∃ ks, a.2 = false ∧ H a.1 = some (.dK ks) ∧ Kvs K mg m H kvs ks
  | .fdic kvs => ∃ ks od, a.2 = false ∧ H a.1 = some (.frz od (.dK ks)) ∧ Kvs K mg m H kvs ks
  | .dn kvs => ∃ xs, a.2 = false ∧ H a.1 = some (DnO K.w a.1 xs) ∧ NKvs K mg m H kvs xs
  | .fdn kvs => ∃ xs od, a.2 = false ∧ H a.1 = some (.frz od (DnO K.w a.1 xs)) ∧ NKvs K mg m H kvs xs
  | .ins c fs => ∃ us : Addr × Addr × List (Str × V), a.2 = false ∧ H a.1 = some (.ins us.1 us.2.1 us.2.2) ∧ Ins K mg m H c fs us
def HotH (o : Option Addr) (H : Hp) : Prop := ∀ a, o = some a → ∃ (oe : Obj) (vs : Array Value) (u : HO), H a = some (.frz oe u) ∧ oe.data = .fields vs ∧ vs[2]? = some .none
theorem HotH.mono {o : Option Addr} {H H' : Hp} (h : HotH o H) (l : ∀ (a : Addr) (o : Obj) (u : HO), H a = some (.frz o u) → H' a = some (.frz o u)) : HotH o H' := fun a e => let ⟨oe, vs, u, h1, h2⟩ := h a e; ⟨oe, vs, u, l _ _ _ h1, h2⟩
structure RelA (K : KW) (mg : Str → Option Value) (m : Mp) (H : Hp) (S : Sto) : Prop where
  len : m.length = S.length
  nd : ∀ (n k : Nat) (a : Addr), m[n]? = some (a, false) → m[k]? = some (a, false) → n = k
  at_ : ∀ (n : Nat) (a : Addr × Bool) (so : SO), m[n]? = some a → S[n]? = some so → RO K mg m H so a
  hot : HotH K.hx H
structure RelE (K : KW) (mg : Str → Option Value) (m : Mp) (H : Hp) (σ : L2.St) (ρ : Env) : Prop where
  len : σ.length = ρ.length
  at_ : ∀ (i : Nat) (d : D), ρ[i]? = some (some d) → ∃ v, σ[i]? = some (some v) ∧ Rp K mg m H d v
section
variable {K : KW} {mg : Str → Option Value} {m m' : Mp} {H H' : Hp} {S : Sto} {σ : L2.St} {ρ : Env}
theorem RelE.mono (l : Le m m' H H') (r : RelE K mg m H σ ρ) : RelE K mg m' H' σ ρ :=
  ⟨r.len, fun i d e => let ⟨v, h1, h2⟩ := r.at_ i d e; ⟨v, h1, h2.mono l⟩⟩
theorem RelE.mov (l : Lt m m' H H') (r : RelE K mg m H σ ρ) : RelE K mg m' H' σ ρ :=
  ⟨r.len, fun i d e => let ⟨v, h1, h2⟩ := r.at_ i d e; ⟨v, h1, h2.mov l⟩⟩
theorem RelE.set (r : RelE K mg m H σ ρ) {i : Nat} {d : D} {v : V} (h : Rp K mg m H d v) : RelE K mg m H (σ.set i (some v)) (ρ.set i (some d)) := by
  refine ⟨by rw [List.length_set, List.length_set, r.len], fun j e hj => ?_⟩
  by_cases hij : i = j
  · subst hij
    by_cases hl : i < ρ.length
    · rw [List.getElem?_set_self hl] at hj
      cases hj
      exact ⟨v, by rw [List.getElem?_set_self (by rw [r.len]; exact hl)], h⟩
    · rw [List.getElem?_eq_none (by simpa using hl)] at hj
      cases hj
  · rw [List.getElem?_set_ne hij] at hj
    obtain ⟨w, h1, h2⟩ := r.at_ j e hj
    exact ⟨w, by rw [List.getElem?_set_ne hij]; exact h1, h2⟩
theorem RelE.clear (r : RelE K mg m H σ ρ) (i : Nat) : RelE K mg m H (σ.set i none) (ρ.set i none) := by
  refine ⟨by rw [List.length_set, List.length_set, r.len], fun j e hj => ?_⟩
  by_cases hij : i = j
  · subst hij
    by_cases hl : i < ρ.length
    · rw [List.getElem?_set_self hl] at hj
      cases hj
    · rw [List.getElem?_eq_none (by simpa using hl)] at hj
      cases hj
  · rw [List.getElem?_set_ne hij] at hj
    obtain ⟨w, h1, h2⟩ := r.at_ j e hj
    exact ⟨w, by rw [List.getElem?_set_ne hij]; exact h1, h2⟩
theorem RelE.wipe (r : RelE K mg m H σ ρ) : ∀ vs : List Nat, RelE K mg m H (L2.wipe σ vs) (wipeE ρ vs)
  | [] => r
  | v :: vs => (RelE.wipe r vs).clear v
theorem RelA.seq (r : RelA K mg m H S) {n : Nat} {a : Addr} {b : Bool} {ds : List D} (hm : m[n]? = some (a, b)) (h : lstAt S n = some ds) : ∃ vs, SqL K H a vs ∧ Rps K mg m H ds vs := by
  unfold lstAt at h
  cases q : S[n]? with
  | none => rw [q] at h; cases h
  | some so =>
    rw [q] at h
    have z := r.at_ n (a, b) so hm q
    cases so with
    | lst xs =>
      cases h
      obtain ⟨vs, _, h1, h2⟩ := z
      exact ⟨vs, SqL.of h1, h2⟩
    | frz xs =>
      cases h
      obtain ⟨vs, h1, h2⟩ := z
      exact ⟨vs, h1.sq, h2⟩
    | _ => cases h
theorem RelA.lst (r : RelA K mg m H S) {n : Nat} {a : Addr} {b : Bool} {ds : List D} (hm : m[n]? = some (a, b)) (h : S[n]? = some (.lst ds)) : ∃ vs, H a = some (.lst vs) ∧ Rps K mg m H ds vs := by
  obtain ⟨vs, _, h1, h2⟩ := r.at_ n (a, b) _ hm h
  exact ⟨vs, h1, h2⟩
theorem RelA.seqD (r : RelA K mg m H S) {d : D} {x : V} {ds : List D} (hd : Rp K mg m H d x) (h : lstD S d = some ds) : ∃ a vs, x = .ref a ∧ SqL K H a vs ∧ Rps K mg m H ds vs := by
  cases hd with
  | loc hm =>
    obtain ⟨vs, h1, h2⟩ := r.seq hm h
    exact ⟨_, vs, rfl, h1, h2⟩
  | fl h1 h2 =>
    cases h
    exact ⟨_, _, rfl, .inl (.inr ⟨_, h1⟩), h2⟩
  | _ => cases h
theorem RelA.lstM (r : RelA K mg m H S) {d : D} {x : V} {ds : List D} (hd : Rp K mg m H d x) (h : lstM S d = some ds) : ∃ a vs, x = .ref a ∧ Rd H a (.lst vs) ∧ Rps K mg m H ds vs := by
  cases hd with
  | loc hm =>
    rename_i n a b
    have h' : (match S[n]? with
      | some (.lst ds) => some ds
      | _ => none) = some ds := h
    cases q : S[n]? with
    | none => rw [q] at h'; cases h'
    | some so =>
      rw [q] at h'
      cases so with
      | lst xs =>
        cases h'
        obtain ⟨vs, h1, h2⟩ := r.lst hm q
        exact ⟨_, vs, rfl, .inl h1, h2⟩
      | _ => cases h'
  | fl h1 h2 =>
    cases h
    exact ⟨_, _, rfl, .inr ⟨_, h1⟩, h2⟩
  | _ => cases h
theorem RelA.lstW (r : RelA K mg m H S) {d : D} {x : V} {ds : List D} (hd : Rp K mg m H d x) (h : lstW S d = some ds) : ∃ a vs, x = .ref a ∧ H a = some (.lst vs) ∧ Rps K mg m H ds vs := by
  cases hd with
  | loc hm =>
    rename_i n a b
    have h' : (match S[n]? with
      | some (.lst ds) => some ds
      | _ => none) = some ds := h
    cases q : S[n]? with
    | none => rw [q] at h'; cases h'
    | some so =>
      rw [q] at h'
      cases so with
      | lst xs =>
        cases h'
        obtain ⟨vs, h1, h2⟩ := r.lst hm q
        exact ⟨_, vs, rfl, h1, h2⟩
      | _ => cases h'
  | _ => cases h
theorem sqF_new {p : Addr} {o : HO} (hp : H p = none) {a : Addr × Bool} {xs : List V} (h : SqF K H a xs) : SqF K (upd H p o) a xs := by
  rcases h with ⟨b, z, h⟩ | h
  · exact .inl ⟨b, z, by rw [upd_ne (ne_of_none h hp)]; exact h⟩
  · exact .inr h
theorem RelA.there (r : RelA K mg m H S) {n : Nat} {a : Addr} (hm : m[n]? = some (a, false)) : H a ≠ none := by
  have hn : n < S.length := by rw [← r.len]; exact (List.getElem?_eq_some_iff.mp hm).1
  have z := r.at_ n (a, false) S[n] hm (List.getElem?_eq_getElem hn)
  cases q : S[n] with
  | lst xs =>
    rw [q] at z
    obtain ⟨ws, _, h1, _⟩ := z
    rw [h1]
    simp
  | frz xs =>
    rw [q] at z
    obtain ⟨ws, h1, _⟩ := z
    rcases h1 with ⟨_, o, h1⟩ | ⟨b, _⟩
    · rw [h1]; simp
    · cases b
  | dic _ =>
    rw [q] at z
    obtain ⟨ws, _, h1, _⟩ := z
    rw [h1]
    simp
  | fdic _ =>
    rw [q] at z
    obtain ⟨ws, od, _, h1, _⟩ := z
    rw [h1]
    simp
  | ins _ _ =>
    rw [q] at z
    obtain ⟨ws, _, h1, _⟩ := z
    rw [h1]
    simp
  | dn _ =>
    rw [q] at z
    obtain ⟨ws, _, h1, _⟩ := z
    rw [h1]
    simp
  | fdn _ =>
    rw [q] at z
    obtain ⟨ws, od, _, h1, _⟩ := z
    rw [h1]
    simp
theorem RelA.notin (r : RelA K mg m H S) {a : Addr} (h : H a = none) : (a, false) ∉ m := fun z => by
  obtain ⟨n, hn⟩ := List.mem_iff_getElem?.mp z
  exact r.there hn h
theorem Le.new {p : Addr} {o : HO} (hp : H p = none) : Le m m H (upd H p o) :=
  ⟨fun _ _ h => h, fun _ _ h => by rw [upd_ne (ne_of_none h hp)]; exact h, fun _ _ _ h => by rw [upd_ne (ne_of_none h hp)]; exact h, fun _ _ h _ => by rw [upd_ne (ne_of_none h hp)]; exact h, fun a u h n => ⟨by rw [upd_ne (ne_of_none h hp)]; exact h, n⟩⟩
theorem RO.new {p : Addr} {o : HO} (hp : H p = none) {so : SO} {a : Addr × Bool} (l : Le m m' H (upd H p o)) (h : RO K mg m H so a) : RO K mg m' (upd H p o) so a := by
  cases so with
  | lst ds =>
    obtain ⟨vs, b, h1, h2⟩ := h
    exact ⟨vs, b, by rw [upd_ne (ne_of_none h1 hp)]; exact h1, h2.mono l⟩
  | frz ds =>
    obtain ⟨vs, h1, h2⟩ := h
    exact ⟨vs, sqF_new hp h1, h2.mono l⟩
  | dic _ =>
    obtain ⟨vs, b, h1, h2, h3⟩ := h
    exact ⟨vs, b, by rw [upd_ne (ne_of_none h1 hp)]; exact h1, h2, h3.mono l⟩
  | fdic _ =>
    obtain ⟨vs, od, b, h1, h2, h3⟩ := h
    exact ⟨vs, od, b, by rw [upd_ne (ne_of_none h1 hp)]; exact h1, h2, h3.mono l⟩
  | ins _ _ =>
    obtain ⟨xs, b, h1, h2⟩ := h
    exact ⟨xs, b, by rw [upd_ne (ne_of_none h1 hp)]; exact h1, h2.mov l.lt⟩
  | dn _ =>
    obtain ⟨xs, b, h1, h2⟩ := h
    exact ⟨xs, b, by rw [upd_ne (ne_of_none h1 hp)]; exact h1, h2.mov l.lt⟩
  | fdn _ =>
    obtain ⟨xs, od, b, h1, h2⟩ := h
    exact ⟨xs, od, b, by rw [upd_ne (ne_of_none h1 hp)]; exact h1, h2.mov l.lt⟩
theorem RelA.new (r : RelA K mg m H S) {p : Addr} {o : HO} (hp : H p = none) : RelA K mg m (upd H p o) S :=
  ⟨r.len, r.nd, fun n a so hm hs => (r.at_ n a so hm hs).new hp (Le.new hp), r.hot.mono (Le.new (m := m) hp).fz⟩
theorem Le.alloc {p : Addr} {o : HO} (hp : H p = none) : Le m (m ++ [(p, false)]) H (upd H p o) :=
  ⟨fun n a h => by rw [List.getElem?_append_left (List.getElem?_eq_some_iff.mp h).1]; exact h, fun _ _ h => by rw [upd_ne (ne_of_none h hp)]; exact h, fun _ _ _ h => by rw [upd_ne (ne_of_none h hp)]; exact h, fun _ _ h _ => by rw [upd_ne (ne_of_none h hp)]; exact h,
    fun a u h n => ⟨by rw [upd_ne (ne_of_none h hp)]; exact h, fun z => by
      rcases List.mem_append.mp z with z | z
      · exact n z
      · exact ne_of_none h hp (by simpa using z)⟩⟩
theorem RelA.alloc (r : RelA K mg m H S) {p : Addr} {ds : List D} {vs : List V} (hp : H p = none) (hs : Rps K mg m H ds vs) : RelA K mg (m ++ [(p, false)]) (upd H p (.lst vs)) (S ++ [.lst ds]) := by
  have old : ∀ (n : Nat) (a : Addr × Bool), m[n]? = some a → n < S.length := fun n a h => by rw [← r.len]; exact (List.getElem?_eq_some_iff.mp h).1
  have cases_ : ∀ (n : Nat) (a : Addr × Bool), (m ++ [(p, false)])[n]? = some a → m[n]? = some a ∨ (n = m.length ∧ a = (p, false)) := fun n a h => by
    by_cases hn : n < m.length
    · rw [List.getElem?_append_left hn] at h
      exact .inl h
    · rw [List.getElem?_append_right (by omega)] at h
      have : n - m.length = 0 := by
        cases q : n - m.length with
        | zero => rfl
        | succ j => rw [q] at h; simp at h
      rw [this] at h
      exact .inr ⟨by omega, by simpa using h.symm⟩
  refine ⟨by rw [List.length_append, List.length_append, r.len]; rfl, fun n k a hn hk => ?_, fun n a so hn hso => ?_, r.hot.mono (Le.alloc (m := m) hp).fz⟩
  · rcases cases_ n _ hn with h1 | ⟨h1, e1⟩
    · rcases cases_ k _ hk with h2 | ⟨h2, e2⟩
      · exact r.nd n k a h1 h2
      · cases e2
        exact absurd hp (r.there h1)
    · rcases cases_ k _ hk with h2 | ⟨h2, _⟩
      · cases e1
        exact absurd hp (r.there h2)
      · exact h1.trans h2.symm
  · rcases cases_ n a hn with h1 | ⟨h1, e1⟩
    · rw [List.getElem?_append_left (old n a h1)] at hso
      exact (r.at_ n a so h1 hso).new hp (Le.alloc hp)
    · subst e1
      rw [h1, r.len, List.getElem?_append_right (Nat.le_refl _)] at hso
      have : so = .lst ds := by simpa using hso.symm
      subst this
      exact ⟨vs, rfl, upd_same, hs.mono (Le.alloc hp)⟩
theorem RelA.at_new (r : RelA K mg m H S) (p : Addr) : (m ++ [(p, false)])[S.length]? = some (p, false) := by
  rw [← r.len, List.getElem?_append_right (Nat.le_refl _)]
  simp
theorem Lt.scratch {p : Addr} {xs ys : List V} (h : H p = some (.lst xs)) : Lt m m H (upd H p (.lst ys)) :=
  ⟨fun _ _ z => z, fun b zs z => by rw [upd_ne (fun q => by rw [q, h] at z; cases z)]; exact z, fun b o u z => by rw [upd_ne (fun q => by rw [q, h] at z; cases z)]; exact z, fun b o z i => by rw [upd_ne (fun q => by rw [q, h] at z; cases z; exact i)]; exact z⟩
theorem RelA.scratch (r : RelA K mg m H S) {p : Addr} {xs ys : List V} (h : H p = some (.lst xs)) (hn : (p, false) ∉ m) : RelA K mg m (upd H p (.lst ys)) S :=
  ⟨r.len, r.nd, fun n a so hm hs => by
    have z := r.at_ n a so hm hs
    obtain ⟨a1, a2⟩ := a
    cases so with
    | lst ds =>
      obtain ⟨us, hb, h1, h2⟩ := z
      have hb' : a2 = false := hb
      subst hb'
      have : a1 ≠ p := fun q => hn (q ▸ List.mem_of_getElem? hm)
      exact ⟨us, rfl, by rw [upd_ne this]; exact h1, h2.mov (Lt.scratch h)⟩
    | frz ds =>
      obtain ⟨us, h1, h2⟩ := z
      refine ⟨us, ?_, h2.mov (Lt.scratch h)⟩
      rcases h1 with ⟨hb, o, h1⟩ | h1
      · have : a1 ≠ p := fun q => by
          have h1' : H a1 = some (.frz o (.lst us)) := h1
          rw [q, h] at h1'
          cases h1'
        exact .inl ⟨hb, o, by rw [upd_ne this]; exact h1⟩
      · exact .inr h1
    | ins _ _ =>
      obtain ⟨us, hb, h1, h2⟩ := z
      have hb' : a2 = false := hb
      subst hb'
      have : a1 ≠ p := fun q => hn (q ▸ List.mem_of_getElem? hm)
      exact ⟨us, rfl, by rw [upd_ne this]; exact h1, h2.mov (Lt.scratch h)⟩
    | dn _ =>
      obtain ⟨us, hb, h1, h2⟩ := z
      have hb' : a2 = false := hb
      subst hb'
      have : a1 ≠ p := fun q => hn (q ▸ List.mem_of_getElem? hm)
      exact ⟨us, rfl, by rw [upd_ne this]; exact h1, h2.mov (Lt.scratch h)⟩
    | fdn _ =>
      obtain ⟨us, od, hb, h1, h2⟩ := z
      have hb' : a2 = false := hb
      subst hb'
      have : a1 ≠ p := fun q => hn (q ▸ List.mem_of_getElem? hm)
      exact ⟨us, od, rfl, by rw [upd_ne this]; exact h1, h2.mov (Lt.scratch h)⟩
    | dic _ =>
      obtain ⟨us, hb, h1, h2, h3⟩ := z
      have hb' : a2 = false := hb
      subst hb'
      have : a1 ≠ p := fun q => hn (q ▸ List.mem_of_getElem? hm)
      exact ⟨us, rfl, by rw [upd_ne this]; exact h1, h2, h3.mov (Lt.scratch h)⟩
    | fdic _ =>
      obtain ⟨us, od, hb, h1, h2, h3⟩ := z
      have hb' : a2 = false := hb
      subst hb'
      have : a1 ≠ p := fun q => hn (q ▸ List.mem_of_getElem? hm)
      exact ⟨us, od, rfl, by rw [upd_ne this]; exact h1, h2, h3.mov (Lt.scratch h)⟩, r.hot.mono (Lt.scratch (m := m) h).fz⟩
theorem Le.scratch {m1 m3 : Mp} {H1 H4 : Hp} (l : Le m1 m3 H1 H4) {p : Addr} {o : HO} (hp : H1 p = none) : Le m1 m3 H1 (upd H4 p o) :=
  ⟨l.pre, fun a vs h => by rw [upd_ne (ne_of_none h hp)]; exact l.tup a vs h, fun a o u h => by rw [upd_ne (ne_of_none h hp)]; exact l.fz a o u h, fun a o h i => by rw [upd_ne (ne_of_none h hp)]; exact l.ex a o h i, fun a u h n => by
    obtain ⟨h1, h2⟩ := l.frame a u h n
    exact ⟨by rw [upd_ne (ne_of_none h hp)]; exact h1, h2⟩⟩
theorem RelA.adopt (r : RelA K mg m H S) {p : Addr} {ds : List D} {vs : List V} (h : H p = some (.lst vs)) (hn : (p, false) ∉ m) (hs : Rps K mg m H ds vs) : RelA K mg (m ++ [(p, false)]) H (S ++ [.lst ds]) := by
  have lt : Lt m (m ++ [(p, false)]) H H := ⟨fun n a h => by rw [List.getElem?_append_left (List.getElem?_eq_some_iff.mp h).1]; exact h, fun _ _ h => h, fun _ _ _ h => h, fun _ _ h _ => h⟩
  have old : ∀ (n : Nat) (a : Addr × Bool), m[n]? = some a → n < S.length := fun n a h => by rw [← r.len]; exact (List.getElem?_eq_some_iff.mp h).1
  have cases_ : ∀ (n : Nat) (a : Addr × Bool), (m ++ [(p, false)])[n]? = some a → m[n]? = some a ∨ (n = m.length ∧ a = (p, false)) := fun n a h => by
    by_cases hn : n < m.length
    · rw [List.getElem?_append_left hn] at h
      exact .inl h
    · rw [List.getElem?_append_right (by omega)] at h
      have : n - m.length = 0 := by
        cases q : n - m.length with
        | zero => rfl
        | succ j => rw [q] at h; simp at h
      rw [this] at h
      exact .inr ⟨by omega, by simpa using h.symm⟩
  refine ⟨by rw [List.length_append, List.length_append, r.len]; rfl, fun n k a hn' hk => ?_, fun n a so hn' hso => ?_, r.hot⟩
  · rcases cases_ n _ hn' with h1 | ⟨h1, e1⟩
    · rcases cases_ k _ hk with h2 | ⟨h2, e2⟩
      · exact r.nd n k a h1 h2
      · cases e2
        exact absurd (List.mem_of_getElem? h1) hn
    · rcases cases_ k _ hk with h2 | ⟨h2, _⟩
      · cases e1
        exact absurd (List.mem_of_getElem? h2) hn
      · exact h1.trans h2.symm
  · rcases cases_ n a hn' with h1 | ⟨h1, e1⟩
    · rw [List.getElem?_append_left (old n a h1)] at hso
      have z := r.at_ n a so h1 hso
      cases so with
      | lst xs => obtain ⟨us, b, g1, g2⟩ := z; exact ⟨us, b, g1, g2.mov lt⟩
      | frz xs => obtain ⟨us, g1, g2⟩ := z; exact ⟨us, g1, g2.mov lt⟩
      | ins _ _ => obtain ⟨us, b, g1, g2⟩ := z; exact ⟨us, b, g1, g2.mov lt⟩
      | dn _ => obtain ⟨us, b, g1, g2⟩ := z; exact ⟨us, b, g1, g2.mov lt⟩
      | fdn _ => obtain ⟨us, od, b, g1, g2⟩ := z; exact ⟨us, od, b, g1, g2.mov lt⟩
      | dic _ => obtain ⟨us, b, g1, g2, g3⟩ := z; exact ⟨us, b, g1, g2, g3.mov lt⟩
      | fdic _ => obtain ⟨us, od, b, g1, g2, g3⟩ := z; exact ⟨us, od, b, g1, g2, g3.mov lt⟩
    · subst e1
      rw [h1, r.len, List.getElem?_append_right (Nat.le_refl _)] at hso
      have : so = .lst ds := by simpa using hso.symm
      subst this
      exact ⟨vs, rfl, h, hs.mov lt⟩
theorem Le.write (r : RelA K mg m H S) {n : Nat} {a : Addr} {b : Bool} {ds : List D} {vs ws : List V} (hm : m[n]? = some (a, b)) (hS : S[n]? = some (.lst ds)) (h : H a = some (.lst vs)) : Le m m H (upd H a (.lst ws)) := by
  have ne : ∀ {b : Addr} {o : HO}, H b = some o → o ≠ .lst vs → b ≠ a := fun {b o} e d z => by
    subst z
    rw [h] at e
    exact d (Option.some.inj e).symm
  obtain ⟨_, hb, _⟩ := r.at_ n (a, b) _ hm hS
  have hb' : b = false := hb
  subst hb'
  refine ⟨fun _ _ z => z, fun b xs z => ?_, fun b o u z => ?_, fun b o z i => ?_, fun b o z nb => ⟨?_, nb⟩⟩
  · rw [upd_ne (ne z (fun q => nomatch q))]
    exact z
  · rw [upd_ne (ne z (fun q => nomatch q))]
    exact z
  · rw [upd_ne (ne z (fun q => by rw [q] at i; exact i))]
    exact z
  · have : b ≠ a := fun q => nb (q ▸ List.mem_of_getElem? hm)
    rw [upd_ne this]
    exact z
theorem RelA.write (r : RelA K mg m H S) {n : Nat} {a : Addr} {b : Bool} {ds es : List D} {vs ws : List V} (hm : m[n]? = some (a, b)) (hS : S[n]? = some (.lst ds)) (h : H a = some (.lst vs)) (hs : Rps K mg m H es ws) :
    RelA K mg m (upd H a (.lst ws)) (S.set n (.lst es)) := by
  have hn : n < S.length := (List.getElem?_eq_some_iff.mp hS).1
  have l : Le m m H (upd H a (.lst ws)) := Le.write r hm hS h
  obtain ⟨_, hb, _⟩ := r.at_ n (a, b) _ hm hS
  have hb' : b = false := hb
  subst hb'
  refine ⟨by rw [List.length_set, r.len], r.nd, fun k b so hk hso => ?_, r.hot.mono l.fz⟩
  by_cases e : n = k
  · subst e
    rw [List.getElem?_set_self hn] at hso
    cases hso
    rw [hm] at hk
    cases hk
    exact ⟨ws, rfl, upd_same, hs.mono l⟩
  · rw [List.getElem?_set_ne e] at hso
    have z := r.at_ k b so hk hso
    cases so with
    | lst xs =>
      obtain ⟨us, hb, h1, h2⟩ := z
      obtain ⟨b1, b2⟩ := b
      have hb' : b2 = false := hb
      subst hb'
      have : b1 ≠ a := fun q => by
        subst q
        exact e (r.nd n k b1 hm hk)
      exact ⟨us, rfl, by rw [upd_ne this]; exact h1, h2.mono l⟩
    | frz xs =>
      obtain ⟨us, h1, h2⟩ := z
      refine ⟨us, ?_, h2.mono l⟩
      rcases h1 with ⟨hb, o, h1⟩ | h1
      · have : b.1 ≠ a := fun q => by
          rw [q, h] at h1
          cases h1
        exact .inl ⟨hb, o, by rw [upd_ne this]; exact h1⟩
      · exact .inr h1
    | ins _ _ =>
      obtain ⟨us, hb, h1, h2⟩ := z
      obtain ⟨b1, b2⟩ := b
      have hb' : b2 = false := hb
      subst hb'
      have : b1 ≠ a := fun q => by
        subst q
        exact e (r.nd n k b1 hm hk)
      exact ⟨us, rfl, by rw [upd_ne this]; exact h1, h2.mov l.lt⟩
    | dn _ =>
      obtain ⟨us, hb, h1, h2⟩ := z
      obtain ⟨b1, b2⟩ := b
      have hb' : b2 = false := hb
      subst hb'
      have : b1 ≠ a := fun q => by
        subst q
        exact e (r.nd n k b1 hm hk)
      exact ⟨us, rfl, by rw [upd_ne this]; exact h1, h2.mov l.lt⟩
    | fdn _ =>
      obtain ⟨us, od, hb, h1, h2⟩ := z
      obtain ⟨b1, b2⟩ := b
      have hb' : b2 = false := hb
      subst hb'
      have : b1 ≠ a := fun q => by
        subst q
        exact e (r.nd n k b1 hm hk)
      exact ⟨us, od, rfl, by rw [upd_ne this]; exact h1, h2.mov l.lt⟩
    | dic _ =>
      obtain ⟨us, hb, h1, h2, h3⟩ := z
      obtain ⟨b1, b2⟩ := b
      have hb' : b2 = false := hb
      subst hb'
      have : b1 ≠ a := fun q => by
        subst q
        exact e (r.nd n k b1 hm hk)
      exact ⟨us, rfl, by rw [upd_ne this]; exact h1, h2, h3.mono l⟩
    | fdic xs =>
      obtain ⟨us, od, hb, h1, h2, h3⟩ := z
      obtain ⟨b1, b2⟩ := b
      have hb' : b2 = false := hb
      subst hb'
      have : b1 ≠ a := fun q => by
        subst q
        exact e (r.nd n k b1 hm hk)
      exact ⟨us, od, rfl, by rw [upd_ne this]; exact h1, h2, h3.mono l⟩
def OwnO : HO → Prop
  | .lst _ => True
  | .dK _ => True
  | .ext _ => True
  | .ins _ _ _ => True
  | _ => False
theorem Le.writeO {n : Nat} {a : Addr} {o o' : HO} (hm : m[n]? = some (a, false)) (h : H a = some o) (ho : OwnO o) : Le m m H (upd H a o') := by
  refine ⟨fun _ _ z => z, fun b xs z => ?_, fun b o u z => ?_, fun b u z i => by
    have : b ≠ a := fun q => by
      subst q
      rw [h] at z
      cases z
      cases o <;> first | exact i.elim | exact ho.elim
    rw [upd_ne this]
    exact z, fun b u z nb => ⟨?_, nb⟩⟩
  · have : b ≠ a := fun q => by
      subst q
      rw [h] at z
      cases z
      exact ho
    rw [upd_ne this]
    exact z
  · have : b ≠ a := fun q => by
      subst q
      rw [h] at z
      cases z
      exact ho
    rw [upd_ne this]
    exact z
  · have : b ≠ a := fun q => nb (q ▸ List.mem_of_getElem? hm)
    rw [upd_ne this]
    exact z
theorem RelA.writeO (r : RelA K mg m H S) {n : Nat} {a : Addr} {o o' : HO} {so : SO} (hm : m[n]? = some (a, false)) (h : H a = some o) (ho : OwnO o) (new : RO K mg m (upd H a o') so (a, false)) : RelA K mg m (upd H a o') (S.set n so) := by
  have hn : n < S.length := by rw [← r.len]; exact (List.getElem?_eq_some_iff.mp hm).1
  have l : Le m m H (upd H a o') := Le.writeO hm h ho
  refine ⟨by rw [List.length_set, r.len], r.nd, fun k b so' hk hso => ?_, r.hot.mono l.fz⟩
  by_cases e : n = k
  · subst e
    rw [List.getElem?_set_self hn] at hso
    cases hso
    rw [hm] at hk
    cases hk
    exact new
  · rw [List.getElem?_set_ne e] at hso
    have z := r.at_ k b so' hk hso
    cases so' with
    | lst xs =>
      obtain ⟨us, hb, h1, h2⟩ := z
      obtain ⟨b1, b2⟩ := b
      have hb' : b2 = false := hb
      subst hb'
      have : b1 ≠ a := fun q => by
        subst q
        exact e (r.nd n k b1 hm hk)
      exact ⟨us, rfl, by rw [upd_ne this]; exact h1, h2.mono l⟩
    | ins _ _ =>
      obtain ⟨us, hb, h1, h2⟩ := z
      obtain ⟨b1, b2⟩ := b
      have hb' : b2 = false := hb
      subst hb'
      have : b1 ≠ a := fun q => by
        subst q
        exact e (r.nd n k b1 hm hk)
      exact ⟨us, rfl, by rw [upd_ne this]; exact h1, h2.mov l.lt⟩
    | dn _ =>
      obtain ⟨us, hb, h1, h2⟩ := z
      obtain ⟨b1, b2⟩ := b
      have hb' : b2 = false := hb
      subst hb'
      have : b1 ≠ a := fun q => by
        subst q
        exact e (r.nd n k b1 hm hk)
      exact ⟨us, rfl, by rw [upd_ne this]; exact h1, h2.mov l.lt⟩
    | fdn _ =>
      obtain ⟨us, od, hb, h1, h2⟩ := z
      obtain ⟨b1, b2⟩ := b
      have hb' : b2 = false := hb
      subst hb'
      have : b1 ≠ a := fun q => by
        subst q
        exact e (r.nd n k b1 hm hk)
      exact ⟨us, od, rfl, by rw [upd_ne this]; exact h1, h2.mov l.lt⟩
    | dic xs =>
      obtain ⟨us, hb, h1, h2, h3⟩ := z
      obtain ⟨b1, b2⟩ := b
      have hb' : b2 = false := hb
      subst hb'
      have : b1 ≠ a := fun q => by
        subst q
        exact e (r.nd n k b1 hm hk)
      exact ⟨us, rfl, by rw [upd_ne this]; exact h1, h2, h3.mono l⟩
    | frz xs =>
      obtain ⟨us, h1, h2⟩ := z
      refine ⟨us, ?_, h2.mono l⟩
      rcases h1 with ⟨hb, o1, h1⟩ | h1
      · have : b.1 ≠ a := fun q => by
          rw [q, h] at h1
          cases h1
          exact ho
        exact .inl ⟨hb, o1, by rw [upd_ne this]; exact h1⟩
      · exact .inr h1
    | fdic xs =>
      obtain ⟨us, od, hb, h1, h2, h3⟩ := z
      obtain ⟨b1, b2⟩ := b
      have hb' : b2 = false := hb
      subst hb'
      have : b1 ≠ a := fun q => by
        subst q
        exact e (r.nd n k b1 hm hk)
      exact ⟨us, od, rfl, by rw [upd_ne this]; exact h1, h2, h3.mono l⟩
theorem RelA.allocO (r : RelA K mg m H S) {p : Addr} {o : HO} {so : SO} (hp : H p = none) (new : RO K mg (m ++ [(p, false)]) (upd H p o) so (p, false)) : RelA K mg (m ++ [(p, false)]) (upd H p o) (S ++ [so]) := by
  have old : ∀ (n : Nat) (a : Addr × Bool), m[n]? = some a → n < S.length := fun n a h => by rw [← r.len]; exact (List.getElem?_eq_some_iff.mp h).1
  have cases_ : ∀ (n : Nat) (a : Addr × Bool), (m ++ [(p, false)])[n]? = some a → m[n]? = some a ∨ (n = m.length ∧ a = (p, false)) := fun n a h => by
    by_cases hn : n < m.length
    · rw [List.getElem?_append_left hn] at h
      exact .inl h
    · rw [List.getElem?_append_right (by omega)] at h
      have : n - m.length = 0 := by
        cases q : n - m.length with
        | zero => rfl
        | succ j => rw [q] at h; simp at h
      rw [this] at h
      exact .inr ⟨by omega, by simpa using h.symm⟩
  have hn0 := r.notin hp
  refine ⟨by rw [List.length_append, List.length_append, r.len]; rfl, fun n k a hn' hk => ?_, fun n a so' hn' hso => ?_, r.hot.mono (Le.alloc (m := m) hp).fz⟩
  · rcases cases_ n _ hn' with h1 | ⟨h1, e1⟩
    · rcases cases_ k _ hk with h2 | ⟨h2, e2⟩
      · exact r.nd n k a h1 h2
      · cases e2
        exact absurd (List.mem_of_getElem? h1) hn0
    · rcases cases_ k _ hk with h2 | ⟨h2, _⟩
      · cases e1
        exact absurd (List.mem_of_getElem? h2) hn0
      · exact h1.trans h2.symm
  · rcases cases_ n a hn' with h1 | ⟨h1, e1⟩
    · rw [List.getElem?_append_left (old n a h1)] at hso
      exact (r.at_ n a so' h1 hso).new hp (Le.alloc hp)
    · subst e1
      rw [h1, r.len, List.getElem?_append_right (Nat.le_refl _)] at hso
      have : so' = so := by simpa using hso.symm
      subst this
      exact new
end
def RpX (K : KW) (mg : Str → Option Value) (m : Mp) (H : Hp) (c : Nat) (p : List D) (cls : Value) (dd : Option Addr) : Prop := ∃ x a vs, exNames[c]? = some x ∧ mg x = some (.ref a) ∧ cls = .ref a ∧ XFld H c dd vs ∧ Rps K mg m H p vs
def Post {α β : Type} (K : KW) (mg : Str → Option Value) (W : XK) (rel : Mp → Hp → α → β → Prop) (m : Mp) (H : Hp) (r : R α) (Q : β → Hp → Prop) : Prop := match r with
  | .ok d S => ∀ m' H' v, Le m m' H H' → RelA K mg m' H' S → rel m' H' d v → Q v H'
  | .exc c p S => ∀ m' H' cls dd, Le m m' H H' → RelA K mg m' H' S → RpX K mg m' H' c p cls dd → W cls dd H'
  | .bad => False
section
variable {K : KW} {mg : Str → Option Value} {W : XK} {m m1 : Mp} {H H1 : Hp}
theorem Post.move {α β : Type} {rel : Mp → Hp → α → β → Prop} {r : R α} {Q : β → Hp → Prop} (l : Le m m1 H H1) (h : Post K mg W rel m H r Q) : Post K mg W rel m1 H1 r Q := by
  cases r with
  | ok d S => exact fun m' H' v l' ra rp => h m' H' v (l.trans l') ra rp
  | exc c p S => exact fun m' H' cls dd l' ra rx => h m' H' cls dd (l.trans l') ra rx
  | bad => exact h
theorem Post.bind {α β γ δ : Type} {rel : Mp → Hp → α → β → Prop} {rel1 : Mp → Hp → γ → δ → Prop} {r : R γ} {f : γ → Sto → R α} {Q : β → Hp → Prop} (h : Post K mg W rel m H (r.bind f) Q) :
    Post K mg W rel1 m H r (fun v H1 => ∃ m1 d S1, Le m m1 H H1 ∧ RelA K mg m1 H1 S1 ∧ rel1 m1 H1 d v ∧ Post K mg W rel m1 H1 (f d S1) Q) := by
  cases r with
  | ok d S => exact fun m' H' v l' ra rp => ⟨m', d, S, l', ra, rp, Post.move l' h⟩
  | exc c p S => exact h
  | bad => exact h
theorem Post.imp {α β : Type} {rel : Mp → Hp → α → β → Prop} {r : R α} {Q Q' : β → Hp → Prop} (h : Post K mg W rel m H r Q) (i : ∀ v H', Q v H' → Q' v H') : Post K mg W rel m H r Q' := by
  cases r with
  | ok d S => exact fun m' H' v l ra rp => i _ _ (h m' H' v l ra rp)
  | exc c p S => exact h
  | bad => exact h
theorem Post.now {α β : Type} {rel : Mp → Hp → α → β → Prop} {d : α} {S : Sto} {Q : β → Hp → Prop} (h : Post K mg W rel m H (.ok d S) Q) (ra : RelA K mg m H S) {v : β} (rp : rel m H d v) : Q v H := h m H v (Le.refl m H) ra rp
end
mutual
theorem nD_lt {k : Nat} : ∀ x : NestedKey, (nD x).lt k = true
  | .none => by simp [nD]
  | .num _ => by simp [nD]
  | .text _ => by simp [nD]
  | .tup ks => by rw [nD, lt_tup]; exact List.all_eq_true.mpr (nDs_lt ks)
theorem nDs_lt {k : Nat} : ∀ xs : List NestedKey, ∀ d ∈ nDs xs, d.lt k = true
  | [], d, h => by cases h
  | x :: xs, d, h => by
    rw [nDs] at h
    rcases List.mem_cons.mp h with rfl | h
    · exact nD_lt x
    · exact nDs_lt xs d h
end
section
variable {K : KW} {mg : Str → Option Value} {m m' : Mp} {H H' : Hp} {S S' : Sto}
mutual
theorem Rp.take (k : Nat) : ∀ {d : D} {v : V}, Rp K mg m H d v → d.lt k = true → Rp K mg (m.take k) H d v
  | _, _, .non, _ => .non
  | _, _, .bl b, _ => .bl b
  | _, _, .int i, _ => .int i
  | _, _, .str x, _ => .str x
  | _, _, .ty t, _ => .ty t
  | _, _, .fn h, _ => .fn h
  | _, _, .tup h hs, q => .tup h (Rps.take2 k hs (by simpa using q))
  | _, _, .loc h, q => .loc (by rw [lt_loc] at q; rw [List.getElem?_take_of_lt (of_decide_eq_true q)]; exact h)
  | _, _, .fl h hs, q => .fl h (Rps.take2 k hs (by simpa using q))
  | _, _, .fd h hk hs, q => .fd h hk (Rps.take2 k hs (by simpa using q))
  | _, _, .fm h hk hq hs, q => .fm h hk (Rps.take2 k hq (nDs_lt _)) (Rps.take2 k hs (by simpa using q))
  | _, _, .bd h hs, q => .bd h (Rps.take2 k hs (by simpa using q))
  | _, _, .bm h hk hq hs, q => by
    rw [lt_bd] at q
    simp only [ltL, List.all_cons, Bool.and_eq_true, lt_tup] at q
    exact .bm h hk (Rps.take2 k hq fun d hd => List.all_eq_true.mp q.1 d hd) (Rps.take2 k hs fun d hd => List.all_eq_true.mp q.2.1 d hd)
  | _, _, .exn h1 h2 h hf hs, q => .exn h1 h2 h hf (Rps.take2 k hs (by simpa using q))
  | _, _, .cls h1 h2, _ => .cls h1 h2
theorem Rps.take2 (k : Nat) : ∀ {ds : List D} {vs : List V}, Rps K mg m H ds vs → (∀ d ∈ ds, d.lt k = true) → Rps K mg (m.take k) H ds vs
  | _, _, .nil, _ => .nil
  | _, _, .cons h hs, q => .cons (Rp.take k h (q _ List.mem_cons_self)) (Rps.take2 k hs fun d hd => q d (List.mem_cons_of_mem _ hd))
end
mutual
theorem Rp.bel : ∀ {d : D} {v : V}, Rp K mg m H d v → d.lt m.length = true
  | _, _, .non => lt_non
  | _, _, .bl b => lt_bl
  | _, _, .int i => lt_int
  | _, _, .str x => lt_str
  | _, _, .ty t => lt_ty
  | _, _, .fn h => lt_fn
  | _, _, .tup h hs => by rw [lt_tup]; exact Rps.bel hs
  | _, _, .loc h => by rw [lt_loc]; exact decide_eq_true (List.getElem?_eq_some_iff.mp h).1
  | _, _, .fl h hs => by rw [lt_fl]; exact Rps.bel hs
  | _, _, .fd h hk hs => by rw [lt_fd]; exact Rps.bel hs
  | _, _, .fm h hk hq hs => by rw [lt_fm]; exact Rps.bel hs
  | _, _, .bd h hs => by rw [lt_bd]; exact Rps.bel hs
  | _, _, .bm h hk hq hs => by
    have h1 := Rps.bel hq
    have h2 := Rps.bel hs
    rw [lt_bd]
    simp only [ltL, List.all_cons, Bool.and_eq_true, lt_tup]
    exact ⟨h1, h2, lt_non, rfl⟩
  | _, _, .exn h1 h2 h hf hs => by rw [lt_exn]; exact Rps.bel hs
  | _, _, .cls h1 h2 => lt_cls
theorem Rps.bel : ∀ {ds : List D} {vs : List V}, Rps K mg m H ds vs → ltL m.length ds = true
  | _, _, .nil => rfl
  | _, _, .cons h hs => by
    show (_ :: _).all _ = true
    rw [List.all_cons, Rp.bel h]
    exact Rps.bel hs
end
theorem Rps.takeL {k : Nat} {ds : List D} {vs : List V} (h : Rps K mg m H ds vs) (q : ltL k ds = true) : Rps K mg (m.take k) H ds vs := Rps.take2 k h (List.all_eq_true.mp q)
theorem RpX.take {k c : Nat} {p : List D} {cls : Value} {dd : Option Addr} (h : RpX K mg m H c p cls dd) (q : ltL k p = true) : RpX K mg (m.take k) H c p cls dd := by
  obtain ⟨x, a, vs, h1, h2, h3, h4, h5⟩ := h
  exact ⟨x, a, vs, h1, h2, h3, h4, h5.takeL q⟩
theorem RO.bel {so : SO} {a : Addr × Bool} (h : RO K mg m H so a) : so.lt m.length = true := by
  cases so with
  | lst ds => obtain ⟨vs, _, _, h⟩ := h; exact h.bel
  | frz ds => obtain ⟨vs, _, h⟩ := h; exact h.bel
  | dic kvs => obtain ⟨vs, _, _, h⟩ := h; exact h.2.bel
  | fdic kvs => obtain ⟨vs, _, _, _, h⟩ := h; exact h.2.bel
  | ins _ _ => obtain ⟨vs, _, _, h⟩ := h; exact h.2.2.bel
  | dn kvs => obtain ⟨vs, _, _, h⟩ := h; exact h.2.2.bel
  | fdn kvs => obtain ⟨vs, _, _, _, h⟩ := h; exact h.2.2.bel
theorem RO.take {so : SO} {a : Addr × Bool} {k : Nat} (h : RO K mg m H so a) (q : so.lt k = true) : RO K mg (m.take k) H so a := by
  cases so with
  | lst ds => obtain ⟨vs, b, c, h⟩ := h; exact ⟨vs, b, c, h.takeL q⟩
  | frz ds => obtain ⟨vs, b, h⟩ := h; exact ⟨vs, b, h.takeL q⟩
  | dic kvs => obtain ⟨vs, b, c, h⟩ := h; exact ⟨vs, b, c, h.1, h.2.takeL q⟩
  | fdic kvs => obtain ⟨vs, o, b, c, h⟩ := h; exact ⟨vs, o, b, c, h.1, h.2.takeL q⟩
  | ins _ _ => obtain ⟨vs, b, c, h⟩ := h; exact ⟨vs, b, c, h.1, h.2.1, h.2.2.takeL q⟩
  | dn kvs => obtain ⟨vs, b, c, h⟩ := h; exact ⟨vs, b, c, h.1, Rps.take2 k h.2.1 (nDs_lt _), h.2.2.takeL q⟩
  | fdn kvs => obtain ⟨vs, o, b, c, h⟩ := h; exact ⟨vs, o, b, c, h.1, Rps.take2 k h.2.1 (nDs_lt _), h.2.2.takeL q⟩
theorem take_of {α : Type} {l : List α} {k n : Nat} {a : α} (h : (l.take k)[n]? = some a) : n < k ∧ l[n]? = some a := by
  have hn : n < (l.take k).length := (List.getElem?_eq_some_iff.mp h).1
  rw [List.length_take] at hn
  have : n < k := by omega
  rw [List.getElem?_take_of_lt this] at h
  exact ⟨this, h⟩
theorem Le.cut (l : Le m m' H H') : Le m (m'.take m.length) H H' :=
  ⟨fun n a h => by rw [List.getElem?_take_of_lt (List.getElem?_eq_some_iff.mp h).1]; exact l.pre n a h, l.tup, l.fz, l.ex, fun a o h n => ⟨(l.frame a o h n).1, fun z => (l.frame a o h n).2 (List.mem_of_mem_take z)⟩⟩
theorem RelA.cut (r : RelA K mg m H S) (l : Le m m' H H') (r' : RelA K mg m' H' S') (k : keepS S S') : RelA K mg (m'.take m.length) H' (S'.take S.length) := by
  refine ⟨by rw [List.length_take, List.length_take, r'.len, r.len], fun n k a h1 h2 => r'.nd n k a (take_of h1).2 (take_of h2).2, fun n a so h1 h2 => ?_, r'.hot⟩
  obtain ⟨hn, h1⟩ := take_of h1
  obtain ⟨hn2, h2⟩ := take_of h2
  refine (r'.at_ n a so h1 h2).take ?_
  rw [r.len]
  rcases k n so hn2 h2 with e | e
  · have h3 : m[n]? = some a := by
      cases q : m[n]? with
      | none => exact absurd (List.getElem?_eq_none_iff.mp q) (by omega)
      | some b =>
        rw [l.pre n b q] at h1
        exact h1
    have := (r.at_ n a so h3 e).bel
    rw [r.len] at this
    exact this
  · exact e
theorem Post.trim {W : XK} {r : R D} {Q : VK} (ra : RelA K mg m H S) (h : Post K mg W (Rp K mg) m H (trim S r) Q) : Post K mg W (Rp K mg) m H r Q := by
  cases r with
  | bad => exact h
  | ok d S' =>
    intro m' H' v l ra' rp
    have h' : Post K mg W (Rp K mg) m H (.ok d (cutS S (d.lt S.length) S')) Q := h
    unfold cutS at h'
    by_cases c : d.lt S.length = true ∧ keepS S S'
    · rw [if_pos c] at h'
      exact h' (m'.take m.length) H' v l.cut (ra.cut l ra' c.2) (rp.take _ (by rw [ra.len]; exact c.1))
    · rw [if_neg c] at h'
      exact h' m' H' v l ra' rp
  | exc cc p S' =>
    intro m' H' cls dd l ra' rp
    have h' : Post K mg W (Rp K mg) m H (.exc cc p (cutS S (ltL S.length p) S')) Q := h
    unfold cutS at h'
    by_cases c : ltL S.length p = true ∧ keepS S S'
    · rw [if_pos c] at h'
      exact h' (m'.take m.length) H' cls dd l.cut (ra.cut l ra' c.2) (rp.take (by rw [ra.len]; exact c.1))
    · rw [if_neg c] at h'
      exact h' m' H' cls dd l ra' rp
end
section
variable {f : PySem.W.Frag} {w : World} {x y : Option Addr} {mg : Str → Option Value} {m : Mp} {H : Hp}
mutual
theorem Rp.kw : ∀ {d : D} {v : V}, Rp ⟨f, w, x⟩ mg m H d v → Rp ⟨f, w, y⟩ mg m H d v
  | _, _, .non => .non
  | _, _, .bl b => .bl b
  | _, _, .int i => .int i
  | _, _, .str x => .str x
  | _, _, .ty t => .ty t
  | _, _, .fn h => .fn h
  | _, _, .tup h hs => .tup h (Rps.kw hs)
  | _, _, .loc h => .loc h
  | _, _, .fl h hs => .fl h (Rps.kw hs)
  | _, _, .fd h hk hs => .fd h hk (Rps.kw hs)
  | _, _, .fm h hk hq hs => .fm h hk (Rps.kw hq) (Rps.kw hs)
  | _, _, .bd h hs => .bd h (Rps.kw hs)
  | _, _, .bm h hk hq hs => .bm h hk (Rps.kw hq) (Rps.kw hs)
  | _, _, .exn h1 h2 h hf hs => .exn h1 h2 h hf (Rps.kw hs)
  | _, _, .cls h1 h2 => .cls h1 h2
theorem Rps.kw : ∀ {ds : List D} {vs : List V}, Rps ⟨f, w, x⟩ mg m H ds vs → Rps ⟨f, w, y⟩ mg m H ds vs
  | _, _, .nil => .nil
  | _, _, .cons h hs => .cons (Rp.kw h) (Rps.kw hs)
end
theorem RO.kw {so : SO} {a : Addr × Bool} (h : RO ⟨f, w, x⟩ mg m H so a) : RO ⟨f, w, y⟩ mg m H so a := by
  cases so with
  | lst ds => obtain ⟨vs, b, c, h⟩ := h; exact ⟨vs, b, c, h.kw⟩
  | frz ds => obtain ⟨vs, b, h⟩ := h; exact ⟨vs, b, h.kw⟩
  | dic kvs => obtain ⟨vs, b, c, h⟩ := h; exact ⟨vs, b, c, h.1, h.2.kw⟩
  | fdic kvs => obtain ⟨vs, o, b, c, h⟩ := h; exact ⟨vs, o, b, c, h.1, h.2.kw⟩
  | ins _ _ => obtain ⟨vs, b, c, h⟩ := h; exact ⟨vs, b, c, h.1, h.2.1, h.2.2.kw⟩
  | dn kvs => obtain ⟨vs, b, c, h⟩ := h; exact ⟨vs, b, c, h.1, h.2.1.kw, h.2.2.kw⟩
  | fdn kvs => obtain ⟨vs, o, b, c, h⟩ := h; exact ⟨vs, o, b, c, h.1, h.2.1.kw, h.2.2.kw⟩
theorem RelA.kw {S : Sto} (h : RelA ⟨f, w, x⟩ mg m H S) (hy : HotH y H) : RelA ⟨f, w, y⟩ mg m H S := ⟨h.len, h.nd, fun n a so h1 h2 => (h.at_ n a so h1 h2).kw, hy⟩
theorem RelA.cold {S : Sto} (h : RelA ⟨f, w, x⟩ mg m H S) : RelA ⟨f, w, none⟩ mg m H S := h.kw fun _ e => nomatch e
theorem RelE.kw {σ : L2.St} {ρ : Env} (h : RelE ⟨f, w, x⟩ mg m H σ ρ) : RelE ⟨f, w, y⟩ mg m H σ ρ := ⟨h.len, fun i d e => let ⟨v, h1, h2⟩ := h.at_ i d e; ⟨v, h1, h2.kw⟩⟩
theorem RpX.kw {c : Nat} {p : List D} {cls : Value} {dd : Option Addr} (h : RpX ⟨f, w, x⟩ mg m H c p cls dd) : RpX ⟨f, w, y⟩ mg m H c p cls dd := by
  obtain ⟨x, a, vs, h1, h2, h3, h4, h5⟩ := h
  exact ⟨x, a, vs, h1, h2, h3, h4, h5.kw⟩
end
end CC
namespace CC
open PySem PySem.Spec PyProof.Rows L2
def bnames : List Str := ["len", "abs", "sum", "min", "max", "all", "any", "sorted", "repr", "int", "str", "list", "tuple", "set", "isinstance", "range", "zip", "enumerate", "bool", "dict", "ValueError"]
def WarmA (A : Around) : Prop := A.handled = none ∨ ∃ a : Addr, A.handled = some (.ref a)
structure Ctx (cb : Bool) (X : Cx) : Prop where
  calm : cb = true → X.calm = true
  hu : X.A.units + 100 < cLine
  nd : X.N.Nodup
  g : X.A.guards = some []
  nob : ∀ x ∈ bnames, X.mg x = none
  wm : WarmA X.A
section
variable {X : Cx}
theorem PE_imp {e : Expr} {t t' : TE} (h : PE X e t) (i : ∀ σ H Q, t' σ H Q → t σ H Q) : PE X e t' := ⟨fun pins s σ H Q I q => h.run pins s σ H Q I (i σ H Q q)⟩
theorem PT_imp {e : Expr} {t t' : TT} (h : PT X e t) (i : ∀ σ H Q, t' σ H Q → t σ H Q) : PT X e t' := ⟨fun pins s σ H Q I q => h.run pins s σ H Q I (i σ H Q q)⟩
theorem PW_imp {e : Expr} {t t' : TT} (h : PW X e t) (i : ∀ σ H Q, t' σ H Q → t σ H Q) : PW X e t' := ⟨fun wh pins s σ H Q I q => h.run wh pins s σ H Q I (i σ H Q q)⟩
theorem PA_imp {e : List Expr} {t t' : TA} (h : PA X e t) (i : ∀ σ H Q, t' σ H Q → t σ H Q) : PA X e t' := ⟨fun pos pins s σ H Q I q => h.run pos pins s σ H Q I (i σ H Q q)⟩
theorem PK_imp {e : List Keyword} {t t' : TA} (h : PK X e t) (i : ∀ σ H Q, t' σ H Q → t σ H Q) : PK X e t' := ⟨fun pos pins s σ H Q I q => h.run pos pins s σ H Q I (i σ H Q q)⟩
theorem PO_imp {e : Option Expr} {t t' : TO} (h : PO X e t) (i : ∀ σ H Q, t' σ H Q → t σ H Q) : PO X e t' := ⟨fun pins s σ H Q I q => h.run pins s σ H Q I (i σ H Q q)⟩
theorem PI_imp {tg e : Expr} {t t' : TI} (h : PI X tg e t) (i : ∀ σ H Q, t' σ H Q → t σ H Q) : PI X tg e t' := ⟨fun pins s σ H Q I q => h.run pins s σ H Q I (i σ H Q q)⟩
theorem PS_imp {e : Stmt} {t t' : TS} (h : PS X e t) (i : ∀ D σ H, t' D σ H → t D σ H) : PS X e t' := ⟨fun pins s σ H D I q => h.run pins s σ H D I (i D σ H q)⟩
theorem PSs_imp {e : List Stmt} {t t' : TS} (h : PSs X e t) (i : ∀ D σ H, t' D σ H → t D σ H) : PSs X e t' := ⟨fun pins s σ H D I q => h.run pins s σ H D I (i D σ H q)⟩
theorem PE_never {e : Expr} {t : TE} (h : ∀ σ H Q, ¬ t σ H Q) : PE X e t := ⟨fun _ _ σ H Q _ q => (h σ H Q q).elim⟩
end
section
variable {K : KW} {mg : Str → Option Value} {m : Mp} {H : Hp} {S : Sto}
theorem toPs_dp (f : D → Option PyData) (hf : ∀ d v p, Rp K mg m H d v → f d = some p → Dp K H v p) : ∀ {ds : List D} {vs : List V} {ps : List PyData}, Rps K mg m H ds vs → ds.mapM f = some ps → DpAll K H vs ps
  | _, _, ps, .nil, e => by
    rw [List.mapM_nil] at e
    cases e
    exact .nil
  | d :: ds, v :: vs, ps, .cons h hs, e => by
    rw [List.mapM_cons] at e
    cases q : f d with
    | none => rw [q] at e; cases e
    | some p =>
      rw [q] at e
      cases q2 : ds.mapM f with
      | none => rw [q2] at e; cases e
      | some r =>
        rw [q2] at e
        cases e
        exact .cons (hf d v p h q) (toPs_dp f hf hs q2)
theorem toP_dp (ra : RelA K mg m H S) : ∀ (n : Nat) (d : D) (v : V) (p : PyData), Rp K mg m H d v → toP S n d = some p → Dp K H v p
  | n, _, _, p, .non, e => by cases n <;> (cases e; exact .non)
  | n, _, _, p, .bl b, e => by cases n <;> (cases e; exact .bl b)
  | n, _, _, p, .int i, e => by cases n <;> (cases e; exact .int i)
  | n, _, _, p, .str x, e => by cases n <;> (cases e; exact .str x)
  | n, _, _, p, .ty t, e => by cases n <;> cases e
  | n, _, _, p, .fn h, e => by cases n <;> cases e
  | 0, _, _, p, .tup h hs, e => by cases e
  | 0, _, _, p, .loc h, e => by cases e
  | 0, _, _, p, .fl h hs, e => by cases e
  | n, _, _, p, .fd h hk hs, e => by cases n <;> cases e
  | n, _, _, p, .fm h hk hq hs, e => by cases n <;> cases e
  | n, _, _, p, .bd h hs, e => by cases n <;> cases e
  | n, _, _, p, .bm h hk hq hs, e => by cases n <;> cases e
  | n, _, _, p, .exn h1 h2 h hf hs, e => by cases n <;> cases e
  | n, _, _, p, .cls h1 h2, e => by cases n <;> cases e
  | n + 1, _, _, p, .tup (ds := ds) h hs, e => by
    unfold toP at e
    cases q : ds.mapM (toP S n) with
    | none => rw [q] at e; cases e
    | some ps =>
      rw [q] at e
      cases e
      exact .tup h.t (toPs_dp (toP S n) (fun d v p r z => toP_dp ra n d v p r z) hs q)
  | n + 1, _, _, p, .fl (ds := ds) h hs, e => by
    unfold toP at e
    cases q : ds.mapM (toP S n) with
    | none => rw [q] at e; cases e
    | some ps =>
      rw [q] at e
      cases e
      exact .lst (.inl (.inr ⟨_, h⟩)) (toPs_dp (toP S n) (fun d v p r z => toP_dp ra n d v p r z) hs q)
  | n + 1, _, _, p, .loc (n := k) h, e => by
    unfold toP at e
    cases q0 : lstAt S k with
    | none => rw [q0] at e; cases e
    | some ds =>
      rw [q0] at e
      obtain ⟨vs, h1, h2⟩ := ra.seq h q0
      cases q : ds.mapM (toP S n) with
      | none =>
        have e' : (ds.mapM (toP S n)).map PyData.list = some p := e
        rw [q] at e'; cases e'
      | some ps =>
        have e' : (ds.mapM (toP S n)).map PyData.list = some p := e
        rw [q] at e'
        cases e'
        exact .lst h1 (toPs_dp (toP S n) (fun d v p r z => toP_dp ra n d v p r z) h2 q)
theorem eqD_ok (ra : RelA K mg m H S) {d e : D} {x y : V} {b : Bool} (rx : Rp K mg m H d x) (ry : Rp K mg m H e y) (h : eqD d e S = some b) :
    ∃ p q, Dp K H x p ∧ Dp K H y q ∧ SeqAt.shaped p = true ∧ SeqAt.shaped q = true ∧ b = PyData.eqv p q := by
  unfold eqD at h
  cases h1 : toP S 50 d with
  | none => rw [h1] at h; cases h
  | some p =>
    rw [h1] at h
    cases h2 : toP S 50 e with
    | none => rw [h2] at h; cases h
    | some q =>
      rw [h2] at h
      have h' : (if SeqAt.shaped p && SeqAt.shaped q then some (PyData.eqv p q) else none) = some b := h
      by_cases c : (SeqAt.shaped p && SeqAt.shaped q) = true
      · rw [if_pos c] at h'
        cases h'
        obtain ⟨c1, c2⟩ := Bool.and_eq_true_iff.mp c
        exact ⟨p, q, toP_dp ra 50 d x p rx h1, toP_dp ra 50 e y q ry h2, c1, c2, rfl⟩
      · rw [if_neg c] at h'
        cases h'
theorem flat_v {d : D} {x : V} (r : Rp K mg m H d x) (h : flatD d = true) : flatV x = true := by
  cases r <;> first | rfl | cases h
theorem flats_v : ∀ {ds : List D} {vs : List V}, Rps K mg m H ds vs → ds.all flatD = true → vs.all flatV = true
  | _, _, .nil, _ => rfl
  | d :: ds, v :: vs, .cons h hs, e => by
    rw [List.all_cons, Bool.and_eq_true_iff] at e
    rw [List.all_cons, flat_v h e.1, flats_v hs e.2]
    rfl
theorem feq_v {d e : D} {x y : V} (r : Rp K mg m H d x) (q : Rp K mg m H e y) (h1 : flatD d = true) (h2 : flatD e = true) : eqV x y = feq d e := by
  cases r <;> first | (cases h1; done) | (cases q <;> first | (cases h2; done) | rfl)
theorem anyf_v {d : D} {x : V} (r : Rp K mg m H d x) (h1 : flatD d = true) : ∀ {ds : List D} {vs : List V}, Rps K mg m H ds vs → ds.all flatD = true → inV x vs = ds.any fun y => feq y d
  | _, _, .nil, _ => rfl
  | e :: ds, v :: vs, .cons h hs, q => by
    rw [List.all_cons, Bool.and_eq_true_iff] at q
    have ih := anyf_v r h1 hs q.2
    unfold inV at ih ⊢
    rw [List.any_cons, List.any_cons, ih, feq_v h r q.1 h1]
theorem isNon_v {d : D} {x : V} (r : Rp K mg m H d x) : decide (x = .non) = isNon d := by
  cases r <;> rfl
theorem tru_v (ra : RelA K mg m H S) {d : D} {x : V} {b : Bool} (r : Rp K mg m H d x) (h : truth d S = some b) : TruV K x H b := by
  cases r with
  | non => cases h; rfl
  | bl b => cases h; rfl
  | int i => cases h; rfl
  | str x => cases h
  | ty t => cases h
  | fn q => cases h
  | fd q hk hs => cases h
  | fm q hk hq hs => cases h
  | bd q hs => cases h
  | bm q hk hq hs => cases h
  | exn h1 h2 q hf hs => cases h
  | cls h1 h2 => cases h
  | fl q hs =>
    cases h
    refine .inl ⟨_, .inl (.inr ⟨_, q⟩), ?_⟩
    cases hs <;> rfl
  | tup q hs =>
    cases h
    refine .inr (.inl ⟨_, q.t, ?_⟩)
    cases hs <;> rfl
  | loc q =>
    rename_i n a _
    have : ∃ ds, lstAt S n = some ds ∧ b = !ds.isEmpty := by
      unfold truth at h
      unfold lstAt
      cases z : S[n]? with
      | none => simp only [z] at h; cases h
      | some so =>
        simp only [z] at h ⊢
        cases so with
        | lst ds => cases h; exact ⟨ds, rfl, rfl⟩
        | frz ds => cases h; exact ⟨ds, rfl, rfl⟩
        | _ => cases h
    obtain ⟨ds, h1, h2⟩ := this
    obtain ⟨vs, h3, h4⟩ := ra.seq q h1
    refine .inl ⟨vs, h3, ?_⟩
    rw [h2]
    cases h4 <;> rfl
end
section
variable {X : Cx}
def rB (K : KW) (mg : Str → Option Value) (f : D → D → Sto → R D) : R2 := fun x y H Q => ∃ W m S d e, RelA K mg m H S ∧ Rp K mg m H d x ∧ Rp K mg m H e y ∧ Post K mg W (Rp K mg) m H (f d e S) Q
def rC (K : KW) (mg : Str → Option Value) (f : D → D → Sto → Option Bool) : R2 := fun x y H Q => ∃ m S d e b, RelA K mg m H S ∧ Rp K mg m H d x ∧ Rp K mg m H e y ∧ f d e S = some b ∧ Q (.bl b) H
theorem post_mk {K : KW} {mg : Str → Option Value} {W : XK} {m : Mp} {H : Hp} {S : Sto} {ds : List D} {vs : List V} {Q : VK} (ra : RelA K mg m H S) (hs : Rps K mg m H ds vs) (h : Post K mg W (Rp K mg) m H (mk (.lst ds) S) Q) :
    ∀ p, H p = none → Q (.ref p) (upd H p (.lst vs)) := fun p hp => h (m ++ [(p, false)]) (upd H p (.lst vs)) (.ref p) (Le.alloc hp) (ra.alloc hp hs) (.loc (ra.at_new p))
theorem post_tup {K : KW} {mg : Str → Option Value} {W : XK} {m : Mp} {H : Hp} {S : Sto} {ds : List D} {vs : List V} {Q : VK} (ra : RelA K mg m H S) (hs : Rps K mg m H ds vs) (h : Post K mg W (Rp K mg) m H (.ok (.tup ds) S) Q) :
    ∀ p, H p = none → Q (.ref p) (upd H p (.tup vs)) := fun p hp => h m (upd H p (.tup vs)) (.ref p) (Le.new hp) (ra.new hp) (.tup (.inl upd_same) (hs.mono (Le.new hp)))
def rJn : R2 := fun x y H Q => ∃ l b xs zs, x = .ref l ∧ y = .ref b ∧ Rd H l (.lst xs) ∧ Rd H b (.lst zs) ∧ xs.length + zs.length ≤ sizeLine ∧ ∀ p, H p = none → Q (.ref p) (upd H p (.lst (xs ++ zs)))
theorem rd_items {pins : List (Addr × Obj)} {σ : L2.St} {H : Hp} {s : Shared} {l : Addr} {xs : List V} (I : Inv X pins σ H s) (g : Rd H l (.lst xs)) : xs.length ≤ sizeLine ∧ ∃ (ui : List Value) (nn : Nat), Vals xs ui ∧ xs.length = ui.length ∧ s.heap.get? l = some { cls := .type "list", data := .seq ui.toArray nn } := by
  obtain ⟨z, ui, nn, r, e⟩ := g.ok I.hok
  exact ⟨z, ui, nn, r, r.length, e⟩
theorem op_jn : OpR X (binaryOp .Add) rJn := by
  intro pins s σ H x y v u Q I rx ry ⟨l, b, xs, zs, ex, ey, g1, g2, cz, q⟩
  subst ex ey
  cases rx
  cases ry
  obtain ⟨c1, ui, nn, r1, l1, e1⟩ := rd_items I g1
  obtain ⟨c2, uj, nm, r2, l2, e2⟩ := rd_items I g2
  refine PySem.P.add_list e1 e2 ?_ (by simp only [List.size_toArray]; omega)
  rw [show ui.toArray ++ uj.toArray = (ui ++ uj).toArray by simp]
  exact ⟨.ref _, _, I.lnew (t' := s.toks) (r1.append r2) (by simp only [List.length_append]; omega), rfl, q _ I.fresh⟩
theorem binD_add {d e : D} {S : Sto} : (∃ i j, d = .int i ∧ e = .int j) ∨ (∃ i j, d = .str i ∧ e = .str j) ∨ (∃ i j, d = .tup i ∧ e = .tup j) ∨ binD .Add d e S = catD (lstM S d) (lstM S e) S := by
  cases d <;> cases e <;> first | exact .inr (.inr (.inr rfl)) | exact .inl ⟨_, _, rfl, rfl⟩ | exact .inr (.inl ⟨_, _, rfl, rfl⟩) | exact .inr (.inr (.inl ⟨_, _, rfl, rfl⟩))
theorem op_add_any : OpR X (binaryOp .Add) (rB X.kw X.mg (binD .Add)) := by
  intro pins s σ H x y v u Q I rx ry ⟨W, m, S, d, e, ra, rd, re, p⟩
  rcases binD_add (d := d) (e := e) (S := S) with ⟨i, j, rfl, rfl⟩ | ⟨i, j, rfl, rfl⟩ | ⟨i, j, rfl, rfl⟩ | hb
  · cases rd
    cases re
    exact op_add pins s σ H _ _ v u Q I rx ry ⟨i, j, rfl, rfl, p.now ra (.int _)⟩
  · cases rd
    cases re
    have p' : Post X.kw X.mg W (Rp X.kw X.mg) m H (if i.length + j.length ≤ sizeLine then .ok (.str (i ++ j)) S else .bad) Q := p
    by_cases c : i.length + j.length ≤ sizeLine
    · rw [if_pos c] at p'
      exact op_add_str pins s σ H _ _ v u Q I rx ry ⟨i, j, rfl, rfl, c, p'.now ra (.str _)⟩
    · rw [if_neg c] at p'
      exact p'.elim
  · cases rd with
    | tup h hs =>
      cases re with
      | tup h' hs' =>
        have p' : Post X.kw X.mg W (Rp X.kw X.mg) m H (if i.length + j.length ≤ sizeLine then .ok (.tup (i ++ j)) S else .bad) Q := p
        by_cases c : i.length + j.length ≤ sizeLine
        · rw [if_pos c] at p'
          refine op_catA pins s σ H _ _ v u Q I rx ry ⟨_, _, _, _, rfl, rfl, h.t, h'.t, by rw [hs.length, hs'.length]; exact c, fun z => ?_, fun z z' => ?_, fun _ _ => post_tup ra (hs.append hs') p'⟩
          · subst z
            cases hs
            exact p'.now ra (.tup h' hs')
          · subst z'
            cases hs'
            exact p'.now ra (by rw [List.append_nil]; exact .tup h hs)
        · rw [if_neg c] at p'
          exact p'.elim
  · rw [hb] at p
    cases h1 : lstM S d with
    | none => rw [h1] at p; exact p.elim
    | some a =>
      cases h2 : lstM S e with
      | none => rw [h1, h2] at p; exact p.elim
      | some b =>
        rw [h1, h2] at p
        have p' : Post X.kw X.mg W (Rp X.kw X.mg) m H (if a.length + b.length ≤ sizeLine then mk (.lst (a ++ b)) S else .bad) Q := p
        by_cases c : a.length + b.length ≤ sizeLine
        · rw [if_pos c] at p'
          obtain ⟨l1, vs, rfl, g1, r1⟩ := ra.lstM rd h1
          obtain ⟨l2, ws, rfl, g2, r2⟩ := ra.lstM re h2
          exact op_jn pins s σ H _ _ v u Q I rx ry ⟨l1, l2, vs, ws, rfl, rfl, g1, g2, by rw [r1.length, r2.length]; exact c, post_mk ra (r1.append r2) p'⟩
        · rw [if_neg c] at p'
          exact p'.elim
theorem op_sub_any : OpR X (binaryOp .Sub) (rB X.kw X.mg (binD .Sub)) := by
  intro pins s σ H x y v u Q I rx ry ⟨W, m, S, d, e, ra, rd, re, p⟩
  cases rd with
  | int i =>
    cases re with
    | int j => exact op_sub pins s σ H _ _ v u Q I rx ry ⟨i, j, rfl, rfl, p.now ra (.int _)⟩
    | _ => exact p.elim
  | _ => cases re <;> exact p.elim
theorem binD_mul {d e : D} {S : Sto} : (∃ i j, d = .int i ∧ e = .int j) ∨ (∃ k, e = .int k ∧ binD .Mult d e S = repL (lstW S d) k S) ∨ binD .Mult d e S = .bad := by
  cases e <;> first | (right; right; cases d <;> rfl; done) | (cases d <;> first | exact .inl ⟨_, _, rfl, rfl⟩ | exact .inr (.inl ⟨_, rfl, rfl⟩))
theorem op_mul_any : OpR X (binaryOp .Mult) (rB X.kw X.mg (binD .Mult)) := by
  intro pins s σ H x y v u Q I rx ry ⟨W, m, S, d, e, ra, rd, re, p⟩
  rcases binD_mul (d := d) (e := e) (S := S) with ⟨i, j, rfl, rfl⟩ | ⟨k, rfl, hb⟩ | hb
  · cases rd
    cases re
    have p' : Post X.kw X.mg W (Rp X.kw X.mg) m H (if mulOk i j then .ok (.int (i * j)) S else .bad) Q := p
    by_cases c : mulOk i j = true
    · rw [if_pos c] at p'
      exact op_mulW pins s σ H _ _ v u Q I rx ry ⟨i, j, rfl, rfl, (of_decide_eq_true c : i.natAbs.log2 + j.natAbs.log2 < 1000000), p'.now ra (.int _)⟩
    · rw [if_neg c] at p'
      exact p'.elim
  · rw [hb] at p
    cases re
    cases h1 : lstW S d with
    | none => rw [h1] at p; exact p.elim
    | some ds =>
      rw [h1] at p
      obtain ⟨a, vs, rfl, g1, g2⟩ := ra.lstW rd h1
      have p'' : Post X.kw X.mg W (Rp X.kw X.mg) m H (if decide (-(2 ^ 63) ≤ k) && decide (k < 2 ^ 63) && decide (ds.length * k.toNat ≤ sizeLine) then mk (.lst (List.replicate k.toNat ds).flatten) S else .bad) Q := p
      by_cases c : (decide (-(2 ^ 63) ≤ k) && decide (k < 2 ^ 63) && decide (ds.length * k.toNat ≤ sizeLine)) = true
      · rw [if_pos c] at p''
        rw [Bool.and_eq_true_iff, Bool.and_eq_true_iff] at c
        obtain ⟨⟨c1, c2⟩, c3⟩ := c
        exact op_rep pins s σ H _ _ v u Q I rx ry ⟨a, k, vs, rfl, rfl, g1, of_decide_eq_true c1, of_decide_eq_true c2, by rw [g2.length]; exact of_decide_eq_true c3, post_mk ra (g2.flatten _) p''⟩
      · rw [if_neg c] at p''
        exact p''.elim
  · rw [hb] at p
    exact p.elim
theorem op_fdiv_any : OpR X (binaryOp .FloorDiv) (rB X.kw X.mg (binD .FloorDiv)) := by
  intro pins s σ H x y v u Q I rx ry ⟨W, m, S, d, e, ra, rd, re, p⟩
  cases rd with
  | int i =>
    cases re with
    | int j =>
      have p' : Post X.kw X.mg W (Rp X.kw X.mg) m H (if divOk j then .ok (.int (i / j)) S else .bad) Q := p
      by_cases c : divOk j = true
      · rw [if_pos c] at p'
        obtain ⟨c1, c2⟩ := Bool.and_eq_true_iff.mp c
        exact op_fdivW pins s σ H _ _ v u Q I rx ry ⟨i, j, rfl, rfl, ⟨of_decide_eq_true c1, of_decide_eq_true c2⟩, p'.now ra (.int _)⟩
      · rw [if_neg c] at p'
        exact p'.elim
    | _ => exact p.elim
  | _ => cases re <;> exact p.elim
theorem op_mod_any : OpR X (binaryOp .Mod) (rB X.kw X.mg (binD .Mod)) := by
  intro pins s σ H x y v u Q I rx ry ⟨W, m, S, d, e, ra, rd, re, p⟩
  cases rd with
  | int i =>
    cases re with
    | int j =>
      have p' : Post X.kw X.mg W (Rp X.kw X.mg) m H (if decide (0 < j) then .ok (.int (i % j)) S else .bad) Q := p
      by_cases c : decide (0 < j) = true
      · rw [if_pos c] at p'
        exact op_mod pins s σ H _ _ v u Q I rx ry ⟨i, j, rfl, rfl, of_decide_eq_true c, p'.now ra (.int _)⟩
      · rw [if_neg c] at p'
        exact p'.elim
    | _ => exact p.elim
  | _ => cases re <;> exact p.elim
theorem bits_le {i : Int} (h : i.natAbs.log2 < 1000) : Builtin.Int.intBits i ≤ 1000 := by
  unfold Builtin.Int.intBits
  split <;> omega
theorem pow_big {i j : Int} (h0 : 0 ≤ j) (h1 : j ≤ 1000) (h : i.natAbs.log2 < 1000) : ¬ Builtin.Int.intTooBig (((Builtin.Int.intBits i : Nat) : Int) * j) = true := by
  have hb := bits_le h
  unfold Builtin.Int.intTooBig
  intro z
  have z' := of_decide_eq_true z
  have b1 : ((Builtin.Int.intBits i : Nat) : Int) * j ≤ 1000 * 1000 := Int.mul_le_mul (by omega) h1 h0 (by omega)
  have b2 : (1000000 : Int) < ((bitsLine : Nat) : Int) := by decide +kernel
  omega
theorem pow_neg1n (n : Nat) : (-1 : Int) ^ n = if n % 2 = 0 then 1 else -1 := by
  have h2 : ((-1 : Int)) ^ (2 : Nat) = 1 := by decide
  by_cases z : n % 2 = 0
  · rw [if_pos z]
    have : n = 2 * (n / 2) := by omega
    rw [this, Int.pow_mul, h2, Int.one_pow]
  · rw [if_neg z]
    have : n = 2 * (n / 2) + 1 := by omega
    rw [this, Int.pow_succ, Int.pow_mul, h2, Int.one_pow]
    rfl
theorem pow_neg1 {j : Int} (h : 0 ≤ j) : (-1 : Int) ^ j.toNat = if (j % 2 == 0) = true then 1 else -1 := by
  rw [pow_neg1n]
  by_cases z : j % 2 = 0
  · rw [if_pos (by omega), if_pos (by rw [z]; rfl)]
  · rw [if_neg (by omega), if_neg (fun q => z (eq_of_beq q))]
theorem op_pow_any : OpR X (binaryOp .Pow) (rB X.kw X.mg (binD .Pow)) := by
  intro pins s σ H x y v u Q I rx ry ⟨W, m, S, d, e, ra, rd, re, p⟩
  cases rd with
  | int i =>
    cases re with
    | int j =>
      have p' : Post X.kw X.mg W (Rp X.kw X.mg) m H (if powOk i j then .ok (.int (i ^ j.toNat)) S else .bad) Q := p
      by_cases c : powOk i j = true
      · rw [if_pos c] at p'
        obtain ⟨c', c3⟩ := Bool.and_eq_true_iff.mp c
        obtain ⟨c1, c2⟩ := Bool.and_eq_true_iff.mp c'
        have h0 : 0 ≤ j := of_decide_eq_true c1
        have h1 : j ≤ 1000 := of_decide_eq_true c2
        have h2 : i.natAbs.log2 < 1000 := of_decide_eq_true c3
        obtain ⟨t, rfl⟩ := rx
        obtain ⟨t', rfl⟩ := ry
        have q := p'.now ra (.int _)
        by_cases e0 : j = 0
        · subst e0
          have q1 : Q (.int 1) H := by
            have e9 : i ^ (0 : Int).toNat = 1 := Int.pow_zero i
            rw [e9] at q
            exact q
          exact AutoIntOps.pow_0 (by decide) (by decide) ⟨.int 1, H, I.tok _, ⟨_, rfl⟩, q1⟩
        · have e0' : ¬ (j == 0) = true := fun z => e0 (eq_of_beq z)
          by_cases e1 : (i == 0 || i == 1) = true
          · refine AutoIntOps.pow_1 h0 e0' e1 ⟨.int i, H, I.tok _, ⟨_, rfl⟩, ?_⟩
            have : i ^ j.toNat = i := by
              rcases Bool.or_eq_true_iff.mp e1 with z | z
              · rw [eq_of_beq z]
                exact Int.zero_pow (by omega)
              · rw [eq_of_beq z]
                exact Int.one_pow
            rw [this] at q
            exact q
          · by_cases e2 : (i == -1) = true
            · refine AutoIntOps.pow_2 h0 e0' e1 e2 ⟨.int _, H, I.tok _, ⟨_, rfl⟩, ?_⟩
              have : i ^ j.toNat = if (j % 2 == 0) = true then 1 else -1 := by
                rw [eq_of_beq e2]
                exact pow_neg1 h0
              rw [this] at q
              exact q
            · exact AutoIntOps.pow_4 h0 e0' e1 e2 (pow_big h0 h1 h2) ⟨.int _, H, I.tok _, ⟨_, rfl⟩, q⟩
      · rw [if_neg c] at p'
        exact p'.elim
    | _ => exact p.elim
  | _ => cases re <;> exact p.elim
theorem op_bin : ∀ op : Operator, OpR X (binaryOp op) (rB X.kw X.mg (binD op))
  | .Add => op_add_any
  | .Sub => op_sub_any
  | .Mult => op_mul_any
  | .FloorDiv => op_fdiv_any
  | .Mod => op_mod_any
  | .Pow => op_pow_any
  | .MatMult | .Div | .LShift | .RShift | .BitOr | .BitXor | .BitAnd => fun _ _ _ _ _ _ _ _ _ _ _ _ ⟨_, _, _, _, _, _, _, _, p⟩ => p.elim
def rEx2 : R2 := fun x y H Q => ∃ l b xs zs, x = .ref l ∧ y = .ref b ∧ H l = some (.lst xs) ∧ Rd H b (.lst zs) ∧ xs.length + zs.length ≤ sizeLine ∧ Q (.ref l) (upd H l (.lst (xs ++ zs)))
theorem iop_ex : OpR X (inplaceOp .Add) rEx2 := by
  intro pins s σ H x y v u Q I rx ry ⟨l, b, xs, zs, ex, ey, g1, g2, cz, q⟩
  subst ex ey
  cases rx
  cases ry
  obtain ⟨c1, ui, nn, r1, l1, e1⟩ := I.lstM g1
  obtain ⟨c2, uj, nm, r2, l2, e2⟩ := rd_items I g2
  have cs : ui.toArray.size + uj.toArray.size ≤ sizeLine := by simp only [List.size_toArray]; omega
  have cl : ¬ (!ui.toArray.isEmpty && Builtin.List.listTooLong (ui.toArray.size + uj.toArray.size)) = true := by
    rw [notLongL cs, Bool.and_false]
    simp
  refine iadd_road ⟨_, e1, rfl⟩ ⟨_, e2, rfl⟩ (call_meets PySem.F.slot_list_iadd ⟨_, e1, rfl⟩ PySem.F.entry_list_iadd (PySem.F.args_list_iadd_2 _ _)
    (AutoSeq1.list___iadd___list_list_0 l ui.toArray nn b uj.toArray nm cl (by simp only [List.size_toArray]; omega) (by omega)) ⟨e1, e2, ?_⟩)
  exact ⟨.ref l, _, I.lset (its' := ui ++ uj) (t' := s.toks) g1 e1 (by simp) (r1.append r2) (by simp only [List.length_append]; omega), rfl, q⟩
theorem op_aug : ∀ op : Operator, OpR X (inplaceOp op) (rB X.kw X.mg (augD op))
  | .Add => by
    intro pins s σ H x y v u Q I rx ry ⟨W, m, S, d, e, ra, rd, re, p⟩
    cases rd with
    | int i =>
      cases re with
      | int j => exact iop_add pins s σ H _ _ v u Q I rx ry ⟨i, j, rfl, rfl, p.now ra (.int _)⟩
      | _ => exact p.elim
    | str a =>
      cases re with
      | str b =>
        have p' : Post X.kw X.mg W (Rp X.kw X.mg) m H (if a.length + b.length ≤ sizeLine then .ok (.str (a ++ b)) S else .bad) Q := p
        by_cases c : a.length + b.length ≤ sizeLine
        · rw [if_pos c] at p'
          exact iop_add_str pins s σ H _ _ v u Q I rx ry ⟨a, b, rfl, rfl, c, p'.now ra (.str _)⟩
        · rw [if_neg c] at p'
          exact p'.elim
      | _ => exact p.elim
    | loc h =>
      rename_i n a _
      have p' : Post X.kw X.mg W (Rp X.kw X.mg) m H (match S[n]?, lstM S e with
        | some (.lst a), some b => if a.length + b.length ≤ sizeLine then .ok (.loc n) (S.set n (.lst (a ++ b))) else .bad
        | _, _ => .bad) Q := p
      cases q : S[n]? with
      | none => rw [q] at p'; exact p'.elim
      | some so =>
        cases q2 : lstM S e with
        | none => rw [q, q2] at p'; cases so <;> exact p'.elim
        | some es =>
          rw [q, q2] at p'
          cases so with
          | lst ds =>
            obtain ⟨vs, h1, h2⟩ := ra.lst h q
            obtain ⟨b, ws, rfl, h3, h4⟩ := ra.lstM re q2
            have p'' : Post X.kw X.mg W (Rp X.kw X.mg) m H (if ds.length + es.length ≤ sizeLine then .ok (.loc n) (S.set n (.lst (ds ++ es))) else .bad) Q := p'
            by_cases c : ds.length + es.length ≤ sizeLine
            · rw [if_pos c] at p''
              exact iop_ex pins s σ H _ _ v u Q I rx ry ⟨a, b, vs, ws, rfl, rfl, h1, h3, by rw [h2.length, h4.length]; exact c,
                p'' m _ (.ref a) (Le.write ra h q h1) (ra.write h q h1 (h2.append h4)) (.loc h)⟩
            · rw [if_neg c] at p''
              exact p''.elim
          | _ => exact p'.elim
    | _ => cases re <;> exact p.elim
  | .Sub => by
    intro pins s σ H x y v u Q I rx ry ⟨W, m, S, d, e, ra, rd, re, p⟩
    cases rd with
    | int i =>
      cases re with
      | int j => exact iop_sub pins s σ H _ _ v u Q I rx ry ⟨i, j, rfl, rfl, p.now ra (.int _)⟩
      | _ => exact p.elim
    | _ => cases re <;> exact p.elim
  | .Mult => by
    intro pins s σ H x y v u Q I rx ry ⟨W, m, S, d, e, ra, rd, re, p⟩
    cases rd with
    | int i =>
      cases re with
      | int j =>
        have p' : Post X.kw X.mg W (Rp X.kw X.mg) m H (if decide (-(2 ^ 64) < j) && decide (j < 2 ^ 64) then .ok (.int (i * j)) S else .bad) Q := p
        by_cases c : (decide (-(2 ^ 64) < j) && decide (j < 2 ^ 64)) = true
        · rw [if_pos c] at p'
          obtain ⟨c1, c2⟩ := Bool.and_eq_true_iff.mp c
          exact iop_mul pins s σ H _ _ v u Q I rx ry ⟨i, j, rfl, rfl, .inr ⟨of_decide_eq_true c1, of_decide_eq_true c2⟩, p'.now ra (.int _)⟩
        · rw [if_neg c] at p'
          exact p'.elim
      | _ => exact p.elim
    | _ => cases re <;> exact p.elim
  | .FloorDiv | .Mod | .Pow | .MatMult | .Div | .LShift | .RShift | .BitOr | .BitXor | .BitAnd => fun _ _ _ _ _ _ _ _ _ _ _ _ ⟨_, _, _, _, _, _, _, _, p⟩ => p.elim
theorem cmp_some {b : Bool} {o : Option Bool} (h : o.map (!·) = some b) : ∃ c, o = some c ∧ b = !c := by
  cases o with
  | none => cases h
  | some c => cases h; exact ⟨c, rfl, rfl⟩
section
variable {K : KW} {mg : Str → Option Value} {m : Mp} {H : Hp} {S : Sto}
theorem dic_w (ra : RelA K mg m H S) {n : Nat} {a : Addr} {b : Bool} {kvs : List (Key × D)} (t : m[n]? = some (a, b)) (q : S[n]? = some (.dic kvs)) : b = false ∧ ∃ ks, H a = some (.dK ks) ∧ Kvs K mg m H kvs ks := by
  obtain ⟨ks, hb, h1, h2⟩ := ra.at_ n (a, b) _ t q
  exact ⟨hb, ks, h1, h2⟩
theorem dic_ro (ra : RelA K mg m H S) {n : Nat} {a : Addr} {b : Bool} {kvs : List (Key × D)} (t : m[n]? = some (a, b)) (h : dicAt S n = some kvs) : ∃ ks, Rd H a (.dK ks) ∧ Kvs K mg m H kvs ks := by
  unfold dicAt at h
  cases q : S[n]? with
  | none => rw [q] at h; cases h
  | some so =>
    rw [q] at h
    cases so with
    | dic _ =>
      cases h
      obtain ⟨ks, hb, h1, h2⟩ := ra.at_ n (a, b) _ t q
      exact ⟨ks, .inl h1, h2⟩
    | fdic _ =>
      cases h
      obtain ⟨ks, od, hb, h1, h2⟩ := ra.at_ n (a, b) _ t q
      exact ⟨ks, .inr ⟨od, h1⟩, h2⟩
    | _ => cases h
theorem DGet.kr {H : Hp} {a : Addr} {kvs : List (Key × V)} {k : Key} (e : Rd H a (.dK kvs)) : DGet H a (kV k) (valV kvs k) := .inl ⟨kvs, k, e, rfl, rfl⟩
theorem kvs_val : ∀ {kvs : List (Key × D)} {ks : List (Key × V)}, Kvs K mg m H kvs ks → ∀ k, (∀ d, valA kvs k = some d → ∃ v, valV ks k = some v ∧ Rp K mg m H d v) ∧ (valA kvs k = none → valV ks k = none)
  | [], [], _, k => ⟨(fun d e => by cases e), fun _ => rfl⟩
  | [], _ :: _, ⟨e, _⟩, _ => by cases e
  | _ :: _, [], ⟨e, _⟩, _ => by cases e
  | p :: kvs, q :: ks, ⟨e, r⟩, k => by
    have e' : p.1 :: kvs.map (·.1) = q.1 :: ks.map (·.1) := e
    obtain ⟨e1, e2⟩ := List.cons.inj e'
    have r' : Rps K mg m H (p.2 :: kvs.map (·.2)) (q.2 :: ks.map (·.2)) := r
    cases r' with
    | cons r1 r2 =>
      obtain ⟨h1, h2⟩ := kvs_val (kvs := kvs) (ks := ks) ⟨e2, r2⟩ k
      by_cases c : p.1 = k
      · have c' : q.1 = k := e1.symm.trans c
        have v1 : valA (p :: kvs) k = some p.2 := by
          unfold valA
          rw [List.find?_cons_of_pos (by simpa using c)]
          rfl
        exact ⟨(fun d ed => by rw [v1] at ed; cases ed; exact ⟨q.2, valV_pos c', r1⟩), (fun z => by rw [v1] at z; cases z)⟩
      · have c' : ¬ q.1 = k := fun z => c (e1.trans z)
        have v1 : valA (p :: kvs) k = valA kvs k := by
          unfold valA
          rw [List.find?_cons_of_neg (by simpa using c)]
        rw [v1, valV_neg c']
        exact ⟨h1, h2⟩
theorem kvs_any : ∀ {kvs : List (Key × D)} {ks : List (Key × V)}, kvs.map (·.1) = ks.map (·.1) → ∀ k : Key, (kvs.any fun kv => decide (kv.1 = k)) = ks.any fun kv => decide (kv.1 = k)
  | [], [], _, _ => rfl
  | [], _ :: _, e, _ => by cases e
  | _ :: _, [], e, _ => by cases e
  | p :: kvs, q :: ks, e, k => by
    have e' : p.1 :: kvs.map (·.1) = q.1 :: ks.map (·.1) := e
    obtain ⟨e1, e2⟩ := List.cons.inj e'
    rw [List.any_cons, List.any_cons, kvs_any e2 k, e1]
theorem kvs_repl {k : Key} {d : D} {v : V} (hv : Rp K mg m H d v) : ∀ {kvs : List (Key × D)} {ks : List (Key × V)}, Kvs K mg m H kvs ks → Kvs K mg m H (kvs.map fun kv => if kv.1 = k then (kv.1, d) else kv) (ks.map fun kv => if kv.1 = k then (kv.1, v) else kv)
  | [], [], _ => ⟨rfl, .nil⟩
  | [], _ :: _, ⟨e, _⟩ => by cases e
  | _ :: _, [], ⟨e, _⟩ => by cases e
  | p :: kvs, q :: ks, ⟨e, r⟩ => by
    have e' : p.1 :: kvs.map (·.1) = q.1 :: ks.map (·.1) := e
    obtain ⟨e1, e2⟩ := List.cons.inj e'
    have r' : Rps K mg m H (p.2 :: kvs.map (·.2)) (q.2 :: ks.map (·.2)) := r
    cases r' with
    | cons r1 r2 =>
      obtain ⟨h1, h2⟩ := kvs_repl hv (kvs := kvs) (ks := ks) ⟨e2, r2⟩
      by_cases c : p.1 = k
      · have c' : q.1 = k := e1.symm.trans c
        simp only [List.map_cons, if_pos c, if_pos c']
        refine ⟨?_, .cons hv h2⟩
        show p.1 :: _ = q.1 :: _
        rw [h1, e1]
      · have c' : ¬ q.1 = k := fun z => c (e1.trans z)
        simp only [List.map_cons, if_neg c, if_neg c']
        refine ⟨?_, .cons r1 h2⟩
        show p.1 :: _ = q.1 :: _
        rw [h1, e1]
theorem kvs_put {kvs : List (Key × D)} {ks : List (Key × V)} {k : Key} {d : D} {v : V} (h : Kvs K mg m H kvs ks) (hv : Rp K mg m H d v) : Kvs K mg m H (putA kvs k d) (putK ks k v) := by
  unfold putA putK
  rw [kvs_any h.1 k]
  by_cases c : (ks.any fun kv => decide (kv.1 = k)) = true
  · rw [if_pos c, if_pos c]
    exact kvs_repl hv h
  · rw [if_neg c, if_neg c]
    exact ⟨by simp only [List.map_append, h.1, List.map_cons, List.map_nil], by simp only [List.map_append, List.map_cons, List.map_nil]; exact h.2.append (.cons hv .nil)⟩
theorem kvs_mono {m' : Mp} {H' : Hp} {kvs : List (Key × D)} {ks : List (Key × V)} (h : Kvs K mg m H kvs ks) (l : Le m m' H H') : Kvs K mg m' H' kvs ks := ⟨h.1, h.2.mono l⟩
theorem kvs_len {kvs : List (Key × D)} {ks : List (Key × V)} (h : Kvs K mg m H kvs ks) : kvs.length = ks.length := by
  have := congrArg List.length h.1
  simpa using this
theorem kD_v {d : D} {k : Key} {x : V} (h : kD d = some k) (r : Rp K mg m H d x) : x = kV k := by
  cases r <;> first | (cases h; done) | (cases h; rfl)
end
theorem kvs_zip {K : KW} {mg : Str → Option Value} {m : Mp} {H : Hp} {kvs : List (Key × V)} {ks : List Key} {ds : List D} (hk : ks = kvs.map (·.1)) (hs : Rps K mg m H ds (kvs.map (·.2))) : Kvs K mg m H (ks.zip ds) kvs := by
  have hl : ks.length = ds.length := by
    have h1 := hs.length
    rw [hk]
    simpa using h1
  have e1 : (ks.zip ds).map (·.1) = ks := by
    have := List.map_fst_zip (l₁ := ks) (l₂ := ds) (by omega)
    exact this
  have e2 : (ks.zip ds).map (·.2) = ds := by
    have := List.map_snd_zip (l₁ := ks) (l₂ := ds) (by omega)
    exact this
  exact ⟨by rw [e1]; exact hk, by rw [e2]; exact hs⟩
mutual
theorem nD_kN : ∀ {d : D} {k : NestedKey}, kN d = some k → nD k = d
  | .non, _, h => by cases h; rw [nD]
  | .int _, _, h => by cases h; rw [nD]
  | .str _, _, h => by cases h; rw [nD]
  | .tup ds, k, h => by
    have h' : (kNs ds).map NestedKey.tup = some k := h
    cases q : kNs ds with
    | none => rw [q] at h'; cases h'
    | some ks =>
      rw [q] at h'
      cases h'
      rw [nD, nDs_kNs q]
  | .bl _, _, h => by cases h
  | .loc _, _, h => by cases h
  | .ty _, _, h => by cases h
  | .fn _, _, h => by cases h
  | .fl _, _, h => by cases h
  | .fd _ _, _, h => by cases h
  | .exn _ _, _, h => by cases h
  | .cls _, _, h => by cases h
  | .fm _ _, _, h => by cases h
  | .bd _, _, h => by cases h
theorem nDs_kNs : ∀ {ds : List D} {ks : List NestedKey}, kNs ds = some ks → nDs ks = ds
  | [], _, h => by cases h; rw [nDs]
  | d :: ds, ks, h => by
    have h' : ((kN d).bind fun k => (kNs ds).map (k :: ·)) = some ks := h
    cases q1 : kN d with
    | none => rw [q1] at h'; cases h'
    | some k =>
      cases q2 : kNs ds with
      | none => rw [q1, q2] at h'; cases h'
      | some r =>
        rw [q1, q2] at h'
        cases h'
        rw [nDs, nD_kN q1, nDs_kNs q2]
end
mutual
theorem kN_nD : ∀ k : NestedKey, kN (nD k) = some k
  | .none => by rw [nD]; rfl
  | .num _ => by rw [nD]; rfl
  | .text _ => by rw [nD]; rfl
  | .tup ks => by
    rw [nD]
    show (kNs (nDs ks)).map NestedKey.tup = _
    rw [kNs_nDs ks]
    rfl
theorem kNs_nDs : ∀ ks : List NestedKey, kNs (nDs ks) = some ks
  | [] => by rw [nDs]; rfl
  | k :: ks => by
    rw [nDs]
    show ((kN (nD k)).bind fun k => (kNs (nDs ks)).map (k :: ·)) = _
    rw [kN_nD k, kNs_nDs ks]
    rfl
end
section
variable {X : Cx} {pins : List (Addr × Obj)} {σ : L2.St} {H : Hp} {s : Shared} {m : Mp}
mutual
theorem kN_is (I : Inv X pins σ H s) : ∀ {d : D} {v : V} {u : Value} {k : NestedKey}, Rp X.kw X.mg m H d v → RelV v u → kN d = some k → NestedIs s.heap k u
  | _, _, u, _, .non, r, h => by cases h; obtain rfl : u = Value.none := r; exact .none
  | _, _, u, _, .int i, r, h => by cases h; obtain ⟨t, rfl⟩ : ∃ t, u = Value.int i t := r; exact .int _ _
  | _, _, u, _, .str x, r, h => by cases h; obtain ⟨t, rfl⟩ : ∃ t, u = Value.str x t := r; exact .text _ _
  | _, _, u, k, @Rp.tup _ _ _ _ a vs ds g hs, r, h => by
    have h' : (kNs ds).map NestedKey.tup = some k := h
    cases q : kNs ds with
    | none => rw [q] at h'; cases h'
    | some ks =>
      rw [q] at h'
      cases h'
      obtain rfl : u = Value.ref a := r
      obtain ⟨its, rv, ⟨o, ho, hc, n, hd⟩, _⟩ := I.tuple g.t
      exact .tup ho hc hd (kNs_is I hs rv q)
  | _, _, _, _, .bl _, _, h => by cases h
  | _, _, _, _, .ty _, _, h => by cases h
  | _, _, _, _, .fn _, _, h => by cases h
  | _, _, _, _, .loc _, _, h => by cases h
  | _, _, _, _, .fl _ _, _, h => by cases h
  | _, _, _, _, .fd _ _ _, _, h => by cases h
  | _, _, _, _, .exn _ _ _ _ _, _, h => by cases h
  | _, _, _, _, .cls _ _, _, h => by cases h
  | _, _, _, _, .fm _ _ _ _, _, h => by cases h
  | _, _, _, _, .bd _ _, _, h => by cases h
  | _, _, _, _, .bm _ _ _ _, _, h => by cases h
theorem kNs_is (I : Inv X pins σ H s) : ∀ {ds : List D} {vs : List V} {us : List Value} {ks : List NestedKey}, Rps X.kw X.mg m H ds vs → Vals vs us → kNs ds = some ks → NestedAll s.heap ks us
  | _, _, _, _, .nil, .nil, h => by cases h; exact .nil
  | d :: ds, _, _, ks, .cons r rs, .cons v vs, h => by
    have h' : ((kN d).bind fun k => (kNs ds).map (k :: ·)) = some ks := h
    cases q1 : kN d with
    | none => rw [q1] at h'; cases h'
    | some k =>
      cases q2 : kNs ds with
      | none => rw [q1, q2] at h'; cases h'
      | some r' =>
        rw [q1, q2] at h'
        cases h'
        exact .cons (kN_is I r v q1) (kNs_is I rs vs q2)
end
theorem kT_kN {d : D} {k : NestedKey} (h : kT d = some k) : kN d = some k ∧ k.depth ≤ 8 ∧ ∃ ds, d = .tup ds := by
  cases d with
  | tup ds =>
    have h' : ((kNs ds).bind fun ks => if decide ((NestedKey.tup ks).depth ≤ 8) then some (.tup ks) else none) = some k := h
    cases q : kNs ds with
    | none => rw [q] at h'; cases h'
    | some ks =>
      rw [q] at h'
      have h2 : (if decide ((NestedKey.tup ks).depth ≤ 8) then some (NestedKey.tup ks) else none) = some k := h'
      by_cases c : (NestedKey.tup ks).depth ≤ 8
      · rw [if_pos (decide_eq_true c)] at h2
        cases h2
        exact ⟨by show (kNs ds).map NestedKey.tup = _; rw [q]; rfl, c, ds, rfl⟩
      · rw [if_neg (by simpa using c)] at h2
        cases h2
  | _ => cases h
theorem kT_at (I : Inv X pins σ H s) {d : D} {v : V} {u : Value} {k : NestedKey} (r : Rp X.kw X.mg m H d v) (ru : RelV v u) (h : kT d = some k) : ∃ b, v = .ref b ∧ u = .ref b ∧ (nestedKind X.prog X.w).is s.heap k b ∧ Rp X.kw X.mg m H (nD k) (.ref b) := by
  obtain ⟨h1, h2, ds, rfl⟩ := kT_kN h
  have e := nD_kN h1
  cases r with
  | @tup b vs _ g hs =>
    obtain rfl : u = Value.ref b := ru
    exact ⟨b, rfl, rfl, ⟨kN_is I (.tup g hs) rfl h1, h2⟩, by rw [e]; exact .tup g hs⟩
theorem nks_is (I : Inv X pins σ H s) : ∀ {xs : List (NestedKey × Addr × V)}, Rps X.kw X.mg m H (nDs (xs.map (·.1))) (xs.map fun x => V.ref x.2.1) → ∀ x ∈ xs, NestedIs s.heap x.1 (.ref x.2.1)
  | [], _, x, hx => by cases hx
  | y :: xs, h, x, hx => by
    have h' : Rps X.kw X.mg m H (nD y.1 :: nDs (xs.map (·.1))) (V.ref y.2.1 :: xs.map fun x => V.ref x.2.1) := h
    cases h' with
    | cons r rs =>
      rcases List.mem_cons.mp hx with rfl | hx
      · exact kN_is I r rfl (kN_nD _)
      · exact nks_is I rs x hx
theorem XV.mem {xs : List (NestedKey × Addr × V)} {ys : List (NestedKey × Addr × Value)} (h : XV xs ys) : ∀ y ∈ ys, ∃ x ∈ xs, x.1 = y.1 ∧ x.2.1 = y.2.1 := by
  induction h with
  | nil => intro y hy; cases hy
  | cons r _ ih =>
    intro y hy
    rcases List.mem_cons.mp hy with rfl | hy
    · exact ⟨_, List.mem_cons_self, r.1, r.2.1⟩
    · obtain ⟨x, hx, e⟩ := ih y hy
      exact ⟨x, List.mem_cons_of_mem _ hx, e⟩
theorem dn_of (I : Inv X pins σ H s) {a : Addr} {xs : List (NestedKey × Addr × V)} (h : Rd H a (DnO X.w a xs)) (hq : Rps X.kw X.mg m H (nDs (xs.map (·.1))) (xs.map fun x => V.ref x.2.1)) :
    xs.length ≤ sizeLine ∧ (∀ x ∈ xs, x.1.depth ≤ 8) ∧ (a == sysModules) = false ∧ ∃ ys, XV xs ys ∧ s.heap.DictOfH (nestedKind X.prog X.w) a ys := by
  obtain ⟨⟨z1, z2, z3, ys, xv, o, es, ep, g1, g2, g3, g4, g5⟩, _⟩ := (show ObjOk X.prog X.w H s.heap a (DnO X.w a xs) from h.ok I.hok)
  refine ⟨z1, z2, z3, ys, xv, o, es, ep, g1, g2, g3, g4, fun y hy => ?_, g5⟩
  obtain ⟨x, hx, e1, e2⟩ := xv.mem y hy
  exact ⟨by rw [← e1, ← e2]; exact nks_is I hq x hx, by rw [← e1]; exact z2 x hx⟩
theorem nk_val {K : KW} {mg : Str → Option Value} : ∀ {kvs : List (NestedKey × D)} {xs : List (NestedKey × Addr × V)} {ys : List (NestedKey × Addr × Value)}, kvs.map (·.1) = xs.map (·.1) → Rps K mg m H (kvs.map (·.2)) (xs.map (·.2.2)) → XV xs ys → ∀ k,
    (∀ d, valA kvs k = some d → ∃ b v u, atKey ys k = some (b, u) ∧ RelV v u ∧ Rp K mg m H d v) ∧ (valA kvs k = none → atKey ys k = none)
  | [], [], _, _, _, .nil, k => ⟨(fun d e => by cases e), fun _ => rfl⟩
  | p :: kvs, x :: xs, y :: ys, e, r, .cons t ts, k => by
    have e' : p.1 :: kvs.map (·.1) = x.1 :: xs.map (·.1) := e
    obtain ⟨e1, e2⟩ := List.cons.inj e'
    have r' : Rps K mg m H (p.2 :: kvs.map (·.2)) (x.2.2 :: xs.map (·.2.2)) := r
    cases r' with
    | cons r1 r2 =>
      obtain ⟨h1, h2⟩ := nk_val e2 r2 ts k
      obtain ⟨t1, t2, t3⟩ := t
      by_cases c : p.1 = k
      · have c' : y.1 = k := t1.symm.trans (e1.symm.trans c)
        have v1 : valA (p :: kvs) k = some p.2 := by unfold valA; rw [List.find?_cons_of_pos (by simpa using c)]; rfl
        have v2 : atKey (y :: ys) k = some y.2 := by unfold atKey; rw [List.find?_cons_of_pos (by simpa using c')]; rfl
        refine ⟨fun d hd => ?_, fun hn => by rw [v1] at hn; cases hn⟩
        rw [v1] at hd
        cases hd
        exact ⟨y.2.1, x.2.2, y.2.2, v2, t3, r1⟩
      · have c' : ¬ y.1 = k := fun z => c (e1.trans (t1.trans z))
        have v1 : valA (p :: kvs) k = valA kvs k := by unfold valA; rw [List.find?_cons_of_neg (by simpa using c)]
        have v2 : atKey (y :: ys) k = atKey ys k := by unfold atKey; rw [List.find?_cons_of_neg (by simpa using c')]
        rw [v1, v2]
        exact ⟨h1, h2⟩
  | [], _ :: _, _, e, _, _, _ => by cases e
  | _ :: _, [], _, e, _, _, _ => by cases e
theorem nk_some {K : KW} {mg : Str → Option Value} {kvs : List (NestedKey × D)} {xs : List (NestedKey × Addr × V)} {ys : List (NestedKey × Addr × Value)} (e : kvs.map (·.1) = xs.map (·.1)) (r : Rps K mg m H (kvs.map (·.2)) (xs.map (·.2.2))) (t : XV xs ys) (k : NestedKey) : (atKey ys k).isSome = (valA kvs k).isSome := by
  obtain ⟨h1, h2⟩ := nk_val e r t k
  cases q : valA kvs k with
  | none => rw [h2 q]; rfl
  | some d =>
    obtain ⟨b, v, u, h3, _⟩ := h1 d q
    rw [h3]
    rfl
theorem dn_ro {K : KW} {mg : Str → Option Value} {S : Sto} (ra : RelA K mg m H S) {n : Nat} {a : Addr} {b : Bool} {kvs : List (NestedKey × D)} (t : m[n]? = some (a, b)) (h : dnAt S n = some kvs) : ∃ xs, Rd H a (DnO K.w a xs) ∧ NKvs K mg m H kvs xs := by
  unfold dnAt at h
  cases q : S[n]? with
  | none => rw [q] at h; cases h
  | some so =>
    rw [q] at h
    cases so with
    | dn _ =>
      cases h
      obtain ⟨xs, hb, h1, h2⟩ := ra.at_ n (a, b) _ t q
      exact ⟨xs, .inl h1, h2⟩
    | fdn _ =>
      cases h
      obtain ⟨xs, od, hb, h1, h2⟩ := ra.at_ n (a, b) _ t q
      exact ⟨xs, .inr ⟨od, h1⟩, h2⟩
    | _ => cases h
theorem nkvs_zip {K : KW} {mg : Str → Option Value} {xs : List (NestedKey × Addr × V)} {ks : List NestedKey} {ds : List D} (hk : ks = xs.map (·.1)) (hq : Rps K mg m H (nDs ks) (xs.map fun x => V.ref x.2.1)) (hs : Rps K mg m H ds (xs.map (·.2.2))) : NKvs K mg m H (ks.zip ds) xs := by
  have hl : ks.length = ds.length := by
    have h1 := hs.length
    rw [hk]
    simpa using h1
  have e1 : (ks.zip ds).map (·.1) = ks := List.map_fst_zip (l₁ := ks) (l₂ := ds) (by omega)
  have e2 : (ks.zip ds).map (·.2) = ds := List.map_snd_zip (l₁ := ks) (l₂ := ds) (by omega)
  exact ⟨by rw [e1]; exact hk, by rw [← hk]; exact hq, by rw [e2]; exact hs⟩
theorem dn_in (hu : X.A.units + 16 < cLine) {a : Addr} {xs : List (NestedKey × Addr × V)} {kvs : List (NestedKey × D)} {d : D} {v : V} {u : Value} {k : NestedKey} (I : Inv X pins σ H s) (h : Rd H a (DnO X.w a xs)) (nk : NKvs X.kw X.mg m H kvs xs) (r : Rp X.kw X.mg m H d v) (ru : RelV v u) (hk : kT d = some k) {Q : VK} (q : Q (.bl (valA kvs k).isSome) H) :
    wpAny (model X.prog X.w) X.A (compareOp .In u (.ref a)) (EP X pins σ Q) X.xe s := by
  obtain ⟨b, rfl, rfl, hi, _⟩ := kT_at I r ru hk
  obtain ⟨_, _, hsys, ys, xv, dd⟩ := dn_of I h nk.2.1
  refine wpAny_in_heap (knd := nestedKind X.prog X.w) (show X.A.in1.units + 8 < cLine by have : X.A.in1.units = X.A.units + 1 := rfl; omega) hi hsys dd ?_
  exact ⟨.bl (atKey ys k).isSome, H, I.tok _, rfl, by rw [nk_some nk.1 nk.2.2 xv]; exact q⟩
theorem dn_notin (hu : X.A.units + 16 < cLine) {a : Addr} {xs : List (NestedKey × Addr × V)} {kvs : List (NestedKey × D)} {d : D} {v : V} {u : Value} {k : NestedKey} (I : Inv X pins σ H s) (h : Rd H a (DnO X.w a xs)) (nk : NKvs X.kw X.mg m H kvs xs) (r : Rp X.kw X.mg m H d v) (ru : RelV v u) (hk : kT d = some k) {Q : VK} (q : Q (.bl (!(valA kvs k).isSome)) H) :
    wpAny (model X.prog X.w) X.A (compareOp .NotIn u (.ref a)) (EP X pins σ Q) X.xe s := by
  obtain ⟨b, rfl, rfl, hi, _⟩ := kT_at I r ru hk
  obtain ⟨_, _, hsys, ys, xv, dd⟩ := dn_of I h nk.2.1
  refine wpAny_notIn_heap (knd := nestedKind X.prog X.w) (show X.A.in1.units + 8 < cLine by have : X.A.in1.units = X.A.units + 1 := rfl; omega) hi hsys dd ?_
  exact ⟨.bl (!(atKey ys k).isSome), H, I.tok _, rfl, by rw [nk_some nk.1 nk.2.2 xv]; exact q⟩
theorem dn_get {A : Around} {E : Value → Shared → Prop} (hu : A.units + 16 < cLine) {a : Addr} {xs : List (NestedKey × Addr × V)} {kvs : List (NestedKey × D)} {d z : D} {v : V} {u : Value} {k : NestedKey} (I : Inv X pins σ H s) (h : Rd H a (DnO X.w a xs)) (nk : NKvs X.kw X.mg m H kvs xs) (r : Rp X.kw X.mg m H d v) (ru : RelV v u) (hk : kT d = some k) (hz : valA kvs k = some z)
    {Q : Value → Shared → Prop} (q : ∀ w' s', Inv X pins σ H s' → (∃ w, RelV w w' ∧ Rp X.kw X.mg m H z w) → Q w' s') : wpAny (model X.prog X.w) A (getItem (.ref a) u) Q E s := by
  obtain ⟨b, rfl, rfl, hi, _⟩ := kT_at I r ru hk
  obtain ⟨_, _, hsys, ys, xv, dd⟩ := dn_of I h nk.2.1
  obtain ⟨b', w, w', h1, h2, h3⟩ := (nk_val nk.1 nk.2.2 xv k).1 z hz
  refine wpAny_getItem_heap (knd := nestedKind X.prog X.w) (show A.in1.units + 8 < cLine by have : A.in1.units = A.units + 1 := rfl; omega) hi dd h1 ?_
  exact q _ _ (I.tok _) ⟨w, h2, h3⟩
theorem dn_type (I : Inv X pins σ H s) {a : Addr} {xs : List (NestedKey × Addr × V)} (h : Rd H a (DnO X.w a xs)) : s.TypeIs (.ref a) "dict" := by
  obtain ⟨⟨_, _, _, ys, xv, o, es, ep, g1, g2, _⟩, _⟩ := (show ObjOk X.prog X.w H s.heap a (DnO X.w a xs) from h.ok I.hok)
  exact ⟨o, g1, g2.1⟩
def putX (xs : List (NestedKey × Addr × V)) (k : NestedKey) (b : Addr) (v : V) : List (NestedKey × Addr × V) := if (xs.any fun x => decide (x.1 = k)) = true then xs.map (fun x => if x.1 = k then (x.1, x.2.1, v) else x) else xs ++ [(k, b, v)]
theorem xv_any : ∀ {xs : List (NestedKey × Addr × V)} {ys : List (NestedKey × Addr × Value)}, XV xs ys → ∀ k, (xs.any fun x => decide (x.1 = k)) = (atKey ys k).isSome
  | _, _, .nil, k => rfl
  | x :: xs, y :: ys, .cons t ts, k => by
    rw [List.any_cons, xv_any ts k]
    by_cases c : x.1 = k
    · have c' : y.1 = k := t.1.symm.trans c
      have v2 : atKey (y :: ys) k = some y.2 := by unfold atKey; rw [List.find?_cons_of_pos (by simpa using c')]; rfl
      rw [v2]
      simp [c]
    · have c' : ¬ y.1 = k := fun z => c (t.1.trans z)
      have v2 : atKey (y :: ys) k = atKey ys k := by unfold atKey; rw [List.find?_cons_of_neg (by simpa using c')]
      rw [v2]
      simp [c]
theorem xv_put {xs : List (NestedKey × Addr × V)} {ys : List (NestedKey × Addr × Value)} (t : XV xs ys) (k : NestedKey) (b : Addr) {v : V} {u : Value} (ru : RelV v u) : XV (putX xs k b v) (storedH ys k b u) := by
  unfold putX
  rw [xv_any t k]
  unfold storedH
  by_cases c : (atKey ys k).isSome = true
  · rw [if_pos c, if_pos c]
    clear c
    induction t with
    | nil => exact .nil
    | @cons x y xs ys t ts ih =>
      refine .cons ?_ ih
      show (fun p q => p.1 = q.1 ∧ p.2.1 = q.2.1 ∧ RelV p.2.2 q.2.2) (if x.1 = k then (x.1, x.2.1, v) else x) (putAt k u y)
      unfold putAt
      by_cases c : x.1 = k
      · rw [if_pos c, if_pos (t.1.symm.trans c)]
        exact ⟨t.1, t.2.1, ru⟩
      · rw [if_neg c, if_neg (fun z => c (t.1.trans z))]
        exact t
  · rw [if_neg c, if_neg c]
    clear c
    induction t with
    | nil => exact .cons ⟨rfl, rfl, ru⟩ .nil
    | cons t ts ih => exact .cons t ih
theorem nk_put {K : KW} {mg : Str → Option Value} {kvs : List (NestedKey × D)} {xs : List (NestedKey × Addr × V)} (h : NKvs K mg m H kvs xs) {k : NestedKey} {b : Addr} (hb : Rp K mg m H (nD k) (.ref b)) {d : D} {v : V} (r : Rp K mg m H d v) : NKvs K mg m H (putA kvs k d) (putX xs k b v) := by
  obtain ⟨h1, h2, h3⟩ := h
  have ea : (kvs.any fun kv => decide (kv.1 = k)) = xs.any fun x => decide (x.1 = k) := by
    have e1 : (kvs.any fun kv => decide (kv.1 = k)) = (kvs.map (·.1)).any fun z => decide (z = k) := by rw [List.any_map]; rfl
    have e2 : (xs.any fun x => decide (x.1 = k)) = (xs.map (·.1)).any fun z => decide (z = k) := by rw [List.any_map]; rfl
    rw [e1, e2, h1]
  unfold putA putX
  rw [ea]
  by_cases c : (xs.any fun x => decide (x.1 = k)) = true
  · rw [if_pos c, if_pos c]
    have f1 : (kvs.map fun kv => if kv.1 = k then (kv.1, d) else kv).map (·.1) = kvs.map (·.1) := by
      rw [List.map_map]
      refine List.map_congr_left fun kv _ => ?_
      show (if kv.1 = k then (kv.1, d) else kv).1 = kv.1
      split <;> rfl
    have f2 : (xs.map fun x => if x.1 = k then (x.1, x.2.1, v) else x).map (·.1) = xs.map (·.1) := by
      rw [List.map_map]
      refine List.map_congr_left fun kv _ => ?_
      show (if kv.1 = k then (kv.1, kv.2.1, v) else kv).1 = kv.1
      split <;> rfl
    have f3 : ((xs.map fun x => if x.1 = k then (x.1, x.2.1, v) else x).map fun x => V.ref x.2.1) = xs.map fun x => V.ref x.2.1 := by
      rw [List.map_map]
      refine List.map_congr_left fun kv _ => ?_
      show V.ref (if kv.1 = k then (kv.1, kv.2.1, v) else kv).2.1 = V.ref kv.2.1
      split <;> rfl
    refine ⟨by rw [f1, f2]; exact h1, by rw [f2, f3]; exact h2, ?_⟩
    clear f1 f2 f3 c ea h2
    induction kvs generalizing xs with
    | nil =>
      cases xs with
      | nil => exact .nil
      | cons _ _ => cases h1
    | cons p kvs ih =>
      cases xs with
      | nil => cases h1
      | cons x xs =>
        have e' : p.1 :: kvs.map (·.1) = x.1 :: xs.map (·.1) := h1
        obtain ⟨e1, e2⟩ := List.cons.inj e'
        have r' : Rps K mg m H (p.2 :: kvs.map (·.2)) (x.2.2 :: xs.map (·.2.2)) := h3
        cases r' with
        | cons r1 r2 =>
          refine .cons ?_ (ih e2 r2)
          show Rp K mg m H (if p.1 = k then (p.1, d) else p).2 (if x.1 = k then (x.1, x.2.1, v) else x).2.2
          by_cases c : p.1 = k
          · rw [if_pos c, if_pos (e1.symm.trans c)]
            exact r
          · rw [if_neg c, if_neg (fun z => c (e1.trans z))]
            exact r1
  · rw [if_neg c, if_neg c]
    refine ⟨by rw [List.map_append, List.map_append, h1]; rfl, ?_, ?_⟩
    · rw [List.map_append, List.map_append]
      have e : ∀ (l : List NestedKey) (k : NestedKey), nDs (l ++ [k]) = nDs l ++ [nD k] := by
        intro l
        induction l with
        | nil => intro k; rfl
        | cons x l ih => intro k; show nD x :: nDs (l ++ [k]) = nD x :: nDs l ++ [nD k]; rw [ih]; rfl
      show Rps K mg m H (nDs (xs.map (·.1) ++ [k])) _
      rw [e]
      exact h2.append (.cons hb .nil)
    · rw [List.map_append, List.map_append]
      exact h3.append (.cons r .nil)
theorem putX_len (xs : List (NestedKey × Addr × V)) (k : NestedKey) (b : Addr) (v : V) : (putX xs k b v).length ≤ xs.length + 1 := by
  unfold putX
  split
  · rw [List.length_map]; omega
  · rw [List.length_append]; exact Nat.le_refl _
theorem putX_dep {xs : List (NestedKey × Addr × V)} {k : NestedKey} {b : Addr} {v : V} (h : ∀ x ∈ xs, x.1.depth ≤ 8) (hk : k.depth ≤ 8) : ∀ x ∈ putX xs k b v, x.1.depth ≤ 8 := by
  intro x hx
  unfold putX at hx
  split at hx
  · obtain ⟨y, hy, rfl⟩ := List.mem_map.mp hx
    have : (if y.1 = k then (y.1, y.2.1, v) else y).1 = y.1 := by split <;> rfl
    rw [this]
    exact h y hy
  · rcases List.mem_append.mp hx with g | g
    · exact h x g
    · rw [List.mem_singleton.mp g]
      exact hk
theorem dn_set {A : Around} {E : Value → Shared → Prop} (hu : A.units + 16 < cLine) {a : Addr} {xs : List (NestedKey × Addr × V)} {d : D} {v r : V} {u ur : Value} {k : NestedKey} (I : Inv X pins σ H s) (h : H a = some (DnO X.w a xs)) (hq : Rps X.kw X.mg m H (nDs (xs.map (·.1))) (xs.map fun x => V.ref x.2.1)) (rd : Rp X.kw X.mg m H d v) (ru : RelV v u) (hk : kT d = some k) (rr : RelV r ur) (hl : xs.length < sizeLine)
    {Q : Unit → Shared → Prop} (q : ∀ b s', v = .ref b → Rp X.kw X.mg m H (nD k) (.ref b) → Inv X pins σ (upd H a (DnO X.w a (putX xs k b r))) s' → Q () s') : wpAny (model X.prog X.w) A (setItem (.ref a) u ur) Q E s := by
  obtain ⟨b, rfl, rfl, hi, hb⟩ := kT_at I rd ru hk
  obtain ⟨z1, z2, hsys, ys, xv, dd⟩ := dn_of I (.inl h) hq
  have hlen : ys.length ≤ sizeLine := by rw [← Paired.length xv]; exact z1
  refine wpAny_setItem_heap (hsz := hlen) (knd := nestedKind X.prog X.w) (show A.in1.units + 8 < cLine by have : A.in1.units = A.units + 1 := rfl; omega) hi dd fun h' dd' hs => q b _ rfl hb ?_
  obtain ⟨o, es, ep, hq', h2, h3, h4, _, h5⟩ := dd'
  have hl2 := putX_len xs k b r
  refine d_write I (by rw [h]; exact True.intro) hs ⟨o, hq'⟩ ⟨⟨by omega, putX_dep z2 (kT_kN hk).2.1, hsys, _, xv_put xv k b rr, o, es, ep, hq', h2, h3, h4, h5⟩, ⟨o, hq'⟩, fun h1 h2' ⟨c1, c2, c3, ys', c4, o', es', ep', c5, c6⟩ kk => ⟨c1, c2, c3, ys', c4, o', es', ep', kk _ c5, c6⟩⟩
end
theorem op_in_any {cb : Bool} (c : Ctx cb X) : OpR X (compareOp .In) (rC X.kw X.mg inD) := by
  intro pins s σ H x y v u Q I rx ry ⟨m, S, d, e, b, ra, rd, re, h, q⟩
  cases re with
  | tup z hs =>
    rename_i a vs ds
    have h' : inSeq d ds = some b := h
    unfold inSeq at h'
    by_cases cc : (flatD d && ds.all flatD) = true
    · rw [if_pos cc] at h'
      obtain ⟨c1, c2⟩ := Bool.and_eq_true_iff.mp cc
      cases h'
      exact op_in_seq pins s σ H _ _ v u Q I rx ry ⟨a, vs, rfl, .inr z.t, flat_v rd c1, flats_v hs c2, by rw [if_neg (by decide), anyf_v rd c1 hs c2]; exact q⟩
    · rw [if_neg cc] at h'
      cases h'
  | loc z =>
    rename_i n a _
    have h0 : (match dicAt S n with
      | some kvs => (kD d).map fun k => (valA kvs k).isSome
      | none => match dnAt S n with
        | some kvs => (kT d).map fun k => (valA kvs k).isSome
        | none => inDeep d (.loc n) S) = some b := h
    cases hdc : dicAt S n with
    | some kvs =>
      rw [hdc] at h0
      have h1 : ((kD d).map fun k => (valA kvs k).isSome) = some b := h0
      cases hk : kD d with
      | none => rw [hk] at h1; cases h1
      | some k =>
        rw [hk] at h1
        cases h1
        obtain ⟨ks, g1, g2⟩ := dic_ro ra z hdc
        have ex := kD_v hk rd
        subst ex
        have ev : v = v := rfl
        obtain rfl : u = Value.ref a := ry
        have e : (valV ks k).isSome = (valA kvs k).isSome := by
          obtain ⟨t1, t2⟩ := kvs_val g2 k
          cases hv : valA kvs k with
          | none =>
            rw [t2 hv]
            rfl
          | some dd =>
            obtain ⟨w, hw, _⟩ := t1 dd hv
            rw [hw]
            rfl
        refine d_in (by have := c.hu; omega) I (DGet.kr g1) rx fun s' I' => ⟨.bl (valV ks k).isSome, H, I', rfl, ?_⟩
        rw [e]
        exact q
    | none =>
    rw [hdc] at h0
    have h00 : (match dnAt S n with
      | some kvs => (kT d).map fun k => (valA kvs k).isSome
      | none => inDeep d (.loc n) S) = some b := h0
    cases hdn : dnAt S n with
    | some kvs =>
      rw [hdn] at h00
      have h1 : ((kT d).map fun k => (valA kvs k).isSome) = some b := h00
      cases hk : kT d with
      | none => rw [hk] at h1; cases h1
      | some k =>
        rw [hk] at h1
        cases h1
        obtain ⟨xs, g1, g2⟩ := dn_ro ra z hdn
        obtain rfl : u = Value.ref a := ry
        exact dn_in (by have := c.hu; omega) I g1 g2 rd rx hk q
    | none =>
    rw [hdn] at h00
    have h' : inDeep d (.loc n) S = some b := h00
    unfold inDeep at h'
    cases h1 : toP S 50 d with
    | none => rw [h1] at h'; cases h'
    | some p =>
      rw [h1] at h'
      cases h2 : toP S 50 (.loc n) with
      | none => rw [h2] at h'; cases h'
      | some r =>
        rw [h2] at h'
        cases r with
        | list ds =>
          have h'' : (if SeqAt.shaped p && SeqAt.shaped (.list ds) then some (ds.any fun z => PyData.eqv z p) else none) = some b := h'
          by_cases cc : (SeqAt.shaped p && SeqAt.shaped (.list ds)) = true
          · rw [if_pos cc] at h''
            obtain ⟨c1, c2⟩ := Bool.and_eq_true_iff.mp cc
            cases h''
            exact op_inD (by have := c.hu; omega) pins s σ H _ _ v u Q I rx ry ⟨p, ds, toP_dp ra 50 _ _ _ rd h1, toP_dp ra 50 _ _ _ (.loc z) h2, c1, c2, q⟩
          · rw [if_neg cc] at h''
            cases h''
        | _ => cases h'
  | fl z hs =>
    rename_i a o vs ds
    have h' : inDeep d (.fl ds) S = some b := h
    unfold inDeep at h'
    cases h1 : toP S 50 d with
    | none => rw [h1] at h'; cases h'
    | some p =>
      rw [h1] at h'
      cases h2 : toP S 50 (.fl ds) with
      | none => rw [h2] at h'; cases h'
      | some r =>
        rw [h2] at h'
        cases r with
        | list ps =>
          have h'' : (if SeqAt.shaped p && SeqAt.shaped (.list ps) then some (ps.any fun z => PyData.eqv z p) else none) = some b := h'
          by_cases cc : (SeqAt.shaped p && SeqAt.shaped (.list ps)) = true
          · rw [if_pos cc] at h''
            obtain ⟨c1, c2⟩ := Bool.and_eq_true_iff.mp cc
            cases h''
            exact op_inD (by have := c.hu; omega) pins s σ H _ _ v u Q I rx ry ⟨p, ps, toP_dp ra 50 _ _ _ rd h1, toP_dp ra 50 _ _ _ (.fl z hs) h2, c1, c2, q⟩
          · rw [if_neg cc] at h''
            cases h''
        | _ => cases h'
  | fd z hk hs =>
    rename_i a o kvs ks ds
    have h1 : ((kD d).map fun k => (valA (ks.zip ds) k).isSome) = some b := h
    cases hkk : kD d with
    | none => rw [hkk] at h1; cases h1
    | some k =>
      rw [hkk] at h1
      cases h1
      have ex := kD_v hkk rd
      subst ex
      obtain rfl : u = Value.ref a := ry
      have g2 : Kvs X.kw X.mg m H (ks.zip ds) kvs := kvs_zip hk hs
      have e : (valV kvs k).isSome = (valA (ks.zip ds) k).isSome := by
        obtain ⟨t1, t2⟩ := kvs_val g2 k
        cases hv : valA (ks.zip ds) k with
        | none =>
          rw [t2 hv]
          rfl
        | some dd =>
          obtain ⟨w, hw, _⟩ := t1 dd hv
          rw [hw]
          rfl
      refine d_in (by have := c.hu; omega) I (DGet.kr (.inr ⟨o, z⟩)) rx fun s' I' => ⟨.bl (valV kvs k).isSome, H, I', rfl, ?_⟩
      rw [e]
      exact q
  | fm z hk hq hs =>
    rename_i a o xs ks ds
    have h1 : ((kT d).map fun k => (valA (ks.zip ds) k).isSome) = some b := h
    cases hkk : kT d with
    | none => rw [hkk] at h1; cases h1
    | some k =>
      rw [hkk] at h1
      cases h1
      obtain rfl : u = Value.ref a := ry
      exact dn_in (by have := c.hu; omega) I (.inr ⟨o, z⟩) (nkvs_zip hk hq hs) rd rx hkk q
  | str z =>
    cases rd with
    | str w => exact op_in_str pins s σ H _ _ v u Q I rx ry ⟨w, z, rfl, rfl, by cases h; exact q⟩
    | _ => cases h
  | _ => cases h
theorem op_notin_any {cb : Bool} (c : Ctx cb X) : OpR X (compareOp .NotIn) (rC X.kw X.mg fun x y S => (inD x y S).map (!·)) := by
  intro pins s σ H x y v u Q I rx ry ⟨m, S, d, e, b, ra, rd, re, hh, q⟩
  obtain ⟨b', h, rfl⟩ := cmp_some hh
  cases re with
  | tup z hs =>
    rename_i a vs ds
    have h' : inSeq d ds = some b' := h
    unfold inSeq at h'
    by_cases cc : (flatD d && ds.all flatD) = true
    · rw [if_pos cc] at h'
      obtain ⟨c1, c2⟩ := Bool.and_eq_true_iff.mp cc
      cases h'
      exact op_notIn_seq pins s σ H _ _ v u Q I rx ry ⟨a, vs, rfl, .inr z.t, flat_v rd c1, flats_v hs c2, by rw [if_pos rfl, anyf_v rd c1 hs c2]; exact q⟩
    · rw [if_neg cc] at h'
      cases h'
  | loc z =>
    rename_i n a _
    have h0 : (match dicAt S n with
      | some kvs => (kD d).map fun k => (valA kvs k).isSome
      | none => match dnAt S n with
        | some kvs => (kT d).map fun k => (valA kvs k).isSome
        | none => inDeep d (.loc n) S) = some b' := h
    cases hdc : dicAt S n with
    | some kvs =>
      rw [hdc] at h0
      have h1 : ((kD d).map fun k => (valA kvs k).isSome) = some b' := h0
      cases hk : kD d with
      | none => rw [hk] at h1; cases h1
      | some k =>
        rw [hk] at h1
        cases h1
        obtain ⟨ks, g1, g2⟩ := dic_ro ra z hdc
        have ex := kD_v hk rd
        subst ex
        have ev : v = v := rfl
        obtain rfl : u = Value.ref a := ry
        have e : (valV ks k).isSome = (valA kvs k).isSome := by
          obtain ⟨t1, t2⟩ := kvs_val g2 k
          cases hv : valA kvs k with
          | none =>
            rw [t2 hv]
            rfl
          | some dd =>
            obtain ⟨w, hw, _⟩ := t1 dd hv
            rw [hw]
            rfl
        refine d_notIn (by have := c.hu; omega) I (DGet.kr g1) rx fun s' I' => ⟨.bl (!(valV ks k).isSome), H, I', rfl, ?_⟩
        rw [e]
        exact q
    | none =>
    rw [hdc] at h0
    have h00 : (match dnAt S n with
      | some kvs => (kT d).map fun k => (valA kvs k).isSome
      | none => inDeep d (.loc n) S) = some b' := h0
    cases hdn : dnAt S n with
    | some kvs =>
      rw [hdn] at h00
      have h1 : ((kT d).map fun k => (valA kvs k).isSome) = some b' := h00
      cases hk : kT d with
      | none => rw [hk] at h1; cases h1
      | some k =>
        rw [hk] at h1
        cases h1
        obtain ⟨xs, g1, g2⟩ := dn_ro ra z hdn
        obtain rfl : u = Value.ref a := ry
        exact dn_notin (by have := c.hu; omega) I g1 g2 rd rx hk q
    | none =>
    rw [hdn] at h00
    have h' : inDeep d (.loc n) S = some b' := h00
    unfold inDeep at h'
    cases h1 : toP S 50 d with
    | none => rw [h1] at h'; cases h'
    | some p =>
      rw [h1] at h'
      cases h2 : toP S 50 (.loc n) with
      | none => rw [h2] at h'; cases h'
      | some r =>
        rw [h2] at h'
        cases r with
        | list ds =>
          have h'' : (if SeqAt.shaped p && SeqAt.shaped (.list ds) then some (ds.any fun z => PyData.eqv z p) else none) = some b' := h'
          by_cases cc : (SeqAt.shaped p && SeqAt.shaped (.list ds)) = true
          · rw [if_pos cc] at h''
            obtain ⟨c1, c2⟩ := Bool.and_eq_true_iff.mp cc
            cases h''
            exact op_notInD (by have := c.hu; omega) pins s σ H _ _ v u Q I rx ry ⟨p, ds, toP_dp ra 50 _ _ _ rd h1, toP_dp ra 50 _ _ _ (.loc z) h2, c1, c2, q⟩
          · rw [if_neg cc] at h''
            cases h''
        | _ => cases h'
  | fl z hs =>
    rename_i a o vs ds
    have h' : inDeep d (.fl ds) S = some b' := h
    unfold inDeep at h'
    cases h1 : toP S 50 d with
    | none => rw [h1] at h'; cases h'
    | some p =>
      rw [h1] at h'
      cases h2 : toP S 50 (.fl ds) with
      | none => rw [h2] at h'; cases h'
      | some r =>
        rw [h2] at h'
        cases r with
        | list ps =>
          have h'' : (if SeqAt.shaped p && SeqAt.shaped (.list ps) then some (ps.any fun z => PyData.eqv z p) else none) = some b' := h'
          by_cases cc : (SeqAt.shaped p && SeqAt.shaped (.list ps)) = true
          · rw [if_pos cc] at h''
            obtain ⟨c1, c2⟩ := Bool.and_eq_true_iff.mp cc
            cases h''
            exact op_notInD (by have := c.hu; omega) pins s σ H _ _ v u Q I rx ry ⟨p, ps, toP_dp ra 50 _ _ _ rd h1, toP_dp ra 50 _ _ _ (.fl z hs) h2, c1, c2, q⟩
          · rw [if_neg cc] at h''
            cases h''
        | _ => cases h'
  | fd z hk hs =>
    rename_i a o kvs ks ds
    have h1 : ((kD d).map fun k => (valA (ks.zip ds) k).isSome) = some b' := h
    cases hkk : kD d with
    | none => rw [hkk] at h1; cases h1
    | some k =>
      rw [hkk] at h1
      cases h1
      have ex := kD_v hkk rd
      subst ex
      obtain rfl : u = Value.ref a := ry
      have g2 : Kvs X.kw X.mg m H (ks.zip ds) kvs := kvs_zip hk hs
      have e : (valV kvs k).isSome = (valA (ks.zip ds) k).isSome := by
        obtain ⟨t1, t2⟩ := kvs_val g2 k
        cases hv : valA (ks.zip ds) k with
        | none =>
          rw [t2 hv]
          rfl
        | some dd =>
          obtain ⟨w, hw, _⟩ := t1 dd hv
          rw [hw]
          rfl
      refine d_notIn (by have := c.hu; omega) I (DGet.kr (.inr ⟨o, z⟩)) rx fun s' I' => ⟨.bl (!(valV kvs k).isSome), H, I', rfl, ?_⟩
      rw [e]
      exact q
  | fm z hk hq hs =>
    rename_i a o xs ks ds
    have h1 : ((kT d).map fun k => (valA (ks.zip ds) k).isSome) = some b' := h
    cases hkk : kT d with
    | none => rw [hkk] at h1; cases h1
    | some k =>
      rw [hkk] at h1
      cases h1
      obtain rfl : u = Value.ref a := ry
      exact dn_notin (by have := c.hu; omega) I (.inr ⟨o, z⟩) (nkvs_zip hk hq hs) rd rx hkk q
  | str z =>
    cases rd with
    | str w => exact op_notin_str pins s σ H _ _ v u Q I rx ry ⟨w, z, rfl, rfl, by cases h; exact q⟩
    | _ => cases h
  | _ => cases h
theorem qEq_cases {x y : D} {S : Sto} {b : Bool} (h : qEq x y S = some b) : (∃ i j, x = .int i ∧ y = .int j ∧ b = (i == j)) ∨ (∃ i j, x = .str i ∧ y = .str j ∧ b = (i == j)) ∨ eqD x y S = some b ∨ lenNe x y S = some b := by
  unfold qEq at h
  split at h
  · cases h
    exact .inl ⟨_, _, rfl, rfl, rfl⟩
  · cases h
    exact .inr (.inl ⟨_, _, rfl, rfl, rfl⟩)
  · split at h
    · rename_i q
      cases h
      exact .inr (.inr (.inl q))
    · exact .inr (.inr (.inr h))
theorem lenNe_ok {K : KW} {mg : Str → Option Value} {m : Mp} {H : Hp} {S : Sto} (ra : RelA K mg m H S) {d e : D} {x y : V} {b : Bool} (rx : Rp K mg m H d x) (ry : Rp K mg m H e y) (h : lenNe d e S = some b) :
    b = false ∧ ∃ a c vs ws, x = .ref a ∧ y = .ref c ∧ SqL K H a vs ∧ SqL K H c ws ∧ vs.length ≠ ws.length := by
  unfold lenNe at h
  cases h1 : lstD S d with
  | none => rw [h1] at h; cases h
  | some ds =>
    cases h2 : lstD S e with
    | none => rw [h1, h2] at h; cases h
    | some es =>
      rw [h1, h2] at h
      have h' : (if ds.length = es.length then none else some false) = some b := h
      by_cases e : ds.length = es.length
      · rw [if_pos e] at h'
        cases h'
      · rw [if_neg e] at h'
        cases h'
        obtain ⟨_, vs, rfl, g1, g2⟩ := ra.seqD rx h1
        obtain ⟨_, ws, rfl, g3, g4⟩ := ra.seqD ry h2
        exact ⟨rfl, _, _, vs, ws, rfl, rfl, g1, g3, by rw [g2.length, g4.length]; exact e⟩
theorem decStr {i j : Str} : decide (V.str i = V.str j) = (i == j) := by
  rw [Bool.eq_iff_iff]
  simp
theorem op_cmp {cb : Bool} (c : Ctx cb X) : ∀ op : CmpOp, OpR X (compareOp op) (rC X.kw X.mg (cmpD op))
  | .Eq => fun pins s σ H x y v u Q I rx ry ⟨m, S, d, e, b, ra, rd, re, h, q⟩ => by
    rcases qEq_cases h with ⟨i, j, rfl, rfl, rfl⟩ | ⟨i, j, rfl, rfl, rfl⟩ | h | hln
    · cases rd
      cases re
      exact op_eq pins s σ H _ _ v u Q I rx ry ⟨rfl, by rw [dec_int]; exact q⟩
    · cases rd
      cases re
      exact op_eq pins s σ H _ _ v u Q I rx ry ⟨rfl, by rw [decStr]; exact q⟩
    · obtain ⟨p, r, h1, h2, h3, h4, rfl⟩ := eqD_ok ra rd re h
      exact op_eqD (by have := c.hu; omega) pins s σ H _ _ v u Q I rx ry ⟨p, r, h1, h2, h3, h4, q⟩
    · obtain ⟨rfl, a, b, vs, ws, rfl, rfl, g1, g2, g3⟩ := lenNe_ok ra rd re hln
      cases rx
      cases ry
      obtain ⟨its, r1, t1, _⟩ := I.list g1
      obtain ⟨jts, r2, t2, _⟩ := I.list g2
      have l1 := r1.length
      have l2 := r2.length
      exact SeqAt.eq_list_lengthsAt t1.isList t2.isList (by simp only [List.size_toArray, bne_iff_ne]; omega) (by have := c.hu; omega) ⟨.bl false, H, I, rfl, q⟩
  | .NotEq => fun pins s σ H x y v u Q I rx ry ⟨m, S, d, e, b, ra, rd, re, hh, q⟩ => by
    obtain ⟨b', h, rfl⟩ := cmp_some hh
    rcases qEq_cases h with ⟨i, j, rfl, rfl, rfl⟩ | ⟨i, j, rfl, rfl, rfl⟩ | h | hln
    · cases rd
      cases re
      exact op_ne pins s σ H _ _ v u Q I rx ry ⟨rfl, by rw [dec_int]; exact q⟩
    · cases rd
      cases re
      exact op_ne pins s σ H _ _ v u Q I rx ry ⟨rfl, by rw [decStr]; exact q⟩
    · obtain ⟨p, r, h1, h2, h3, h4, rfl⟩ := eqD_ok ra rd re h
      exact op_neD (by have := c.hu; omega) pins s σ H _ _ v u Q I rx ry ⟨p, r, h1, h2, h3, h4, q⟩
    · obtain ⟨rfl, a, b, vs, ws, rfl, rfl, g1, g2, g3⟩ := lenNe_ok ra rd re hln
      cases rx
      cases ry
      obtain ⟨its, r1, t1, _⟩ := I.list g1
      obtain ⟨jts, r2, t2, _⟩ := I.list g2
      have l1 := r1.length
      have l2 := r2.length
      exact SeqAt.RcNeAt.lists_lengths t1.isList t2.isList (by simp only [List.size_toArray, bne_iff_ne]; omega) (by have := c.hu; omega) X.prog X.w _ _ ⟨.bl true, H, I, rfl, q⟩
  | .Lt => fun pins s σ H x y v u Q I rx ry ⟨m, S, d, e, b, ra, rd, re, h, q⟩ => by
    cases rd <;> cases re <;> first | (cases h; done) | exact op_lt pins s σ H _ _ v u Q I rx ry ⟨_, _, rfl, rfl, by cases h; exact q⟩
  | .LtE => fun pins s σ H x y v u Q I rx ry ⟨m, S, d, e, b, ra, rd, re, h, q⟩ => by
    cases rd <;> cases re <;> first | (cases h; done) | exact op_le pins s σ H _ _ v u Q I rx ry ⟨_, _, rfl, rfl, by cases h; exact q⟩
  | .Gt => fun pins s σ H x y v u Q I rx ry ⟨m, S, d, e, b, ra, rd, re, h, q⟩ => by
    cases rd <;> cases re <;> first | (cases h; done) | exact op_gt pins s σ H _ _ v u Q I rx ry ⟨_, _, rfl, rfl, by cases h; exact q⟩
  | .GtE => fun pins s σ H x y v u Q I rx ry ⟨m, S, d, e, b, ra, rd, re, h, q⟩ => by
    cases rd <;> cases re <;> first | (cases h; done) | exact op_ge pins s σ H _ _ v u Q I rx ry ⟨_, _, rfl, rfl, by cases h; exact q⟩
  | .In => op_in_any c
  | .NotIn => op_notin_any c
  | .Is => fun pins s σ H x y v u Q I rx ry ⟨m, S, d, e, b, ra, rd, re, h, q⟩ => by
    cases re <;> first | (cases h; done) | exact op_isN pins s σ H _ _ v u Q I rx ry ⟨rfl, by rw [isNon_v rd]; cases h; exact q⟩
  | .IsNot => fun pins s σ H x y v u Q I rx ry ⟨m, S, d, e, b, ra, rd, re, h, q⟩ => by
    cases re <;> first | (cases h; done) | exact op_notN pins s σ H _ _ v u Q I rx ry ⟨rfl, by rw [isNon_v rd]; cases h; exact q⟩
def rIx' (K : KW) (mg : Str → Option Value) : R2 := fun x y H Q => ∃ m S d e z, RelA K mg m H S ∧ Rp K mg m H d x ∧ Rp K mg m H e y ∧ ixD d e S = some z ∧ ∀ v, Rp K mg m H z v → Q v H
theorem ix_any {cb : Bool} (c : Ctx cb X) : IxR X (rIx' X.kw X.mg) := by
  intro value slice pins s σ H x y v u Q I rx ry ⟨m, S, d, e, z, ra, rd, re, h, q⟩ hs
  cases rd with
  | fl t hv =>
    cases re with
    | int i =>
      obtain ⟨w, h1, h2⟩ := hv.atI h
      exact ix_list value slice pins s σ H _ _ v u Q I rx ry ⟨_, _, i, w, rfl, rfl, .inl (.inr ⟨_, t⟩), h1, q w h2⟩ hs
    | _ => cases h
  | fd t hk hv =>
    rename_i a o kvs ks ds
    have h3' : ((kD e).bind fun k => valA (ks.zip ds) k) = some z := h
    cases hkk : kD e with
    | none => rw [hkk] at h3'; cases h3'
    | some k =>
      rw [hkk] at h3'
      have h4' : valA (ks.zip ds) k = some z := h3'
      obtain ⟨w, hw, rw'⟩ := (kvs_val (kvs_zip hk hv) k).1 z h4'
      have ey := kD_v hkk re
      subst ey
      obtain rfl : v = Value.ref a := rx
      have g : DGet H a (kV k) (some w) := hw ▸ DGet.kr (.inr ⟨o, t⟩)
      exact tail_any (dict_typeIs I g) slot_dict_getitem.lookup (d_getItem (by have := c.hu; omega) I g ry fun w' s' I' r' => ⟨w, H, I', r', q w rw'⟩) hs
  | fm t hk hq hv =>
    rename_i a o xs ks ds
    have h3' : ((kT e).bind fun k => valA (ks.zip ds) k) = some z := h
    cases hkk : kT e with
    | none => rw [hkk] at h3'; cases h3'
    | some k =>
      rw [hkk] at h3'
      have h4' : valA (ks.zip ds) k = some z := h3'
      obtain rfl : v = Value.ref a := rx
      have g : Rd H a (DnO X.w a xs) := .inr ⟨o, t⟩
      exact tail_any (dn_type I g) slot_dict_getitem.lookup (dn_get (by have := c.hu; omega) I g (nkvs_zip hk hq hv) re ry hkk h4' fun w' s' I' ⟨w, r', rw'⟩ => ⟨w, H, I', r', q w rw'⟩) hs
  | tup t hv =>
    cases re with
    | int i =>
      obtain ⟨w, h1, h2⟩ := hv.atI h
      exact ix_tup value slice pins s σ H _ _ v u Q I rx ry ⟨_, _, i, w, rfl, rfl, t.t, h1, q w h2⟩ hs
    | _ => cases h
  | loc t =>
    rename_i n a _
    have h' : ixL (lstAt S n) (dicAt S n) (dnAt S n) e = some z := h
    cases hl : lstAt S n with
    | some ds =>
      rw [hl] at h'
      cases re with
      | int i =>
        have h2' : atI ds i = some z := h'
        obtain ⟨vs, h3, h4⟩ := ra.seq t hl
        obtain ⟨w, h1, h2⟩ := h4.atI h2'
        exact ix_list value slice pins s σ H _ _ v u Q I rx ry ⟨_, _, i, w, rfl, rfl, h3, h1, q w h2⟩ hs
      | _ => cases h'
    | none =>
      rw [hl] at h'
      have h2' : (match dicAt S n with
        | some kvs => (kD e).bind fun k => valA kvs k
        | none => (dnAt S n).bind fun kvs => (kT e).bind fun k => valA kvs k) = some z := h'
      cases hdc : dicAt S n with
      | none =>
        rw [hdc] at h2'
        have h20 : ((dnAt S n).bind fun kvs => (kT e).bind fun k => valA kvs k) = some z := h2'
        cases hdn : dnAt S n with
        | none => rw [hdn] at h20; cases h20
        | some kvs =>
          rw [hdn] at h20
          have h21 : ((kT e).bind fun k => valA kvs k) = some z := h20
          cases hk : kT e with
          | none => rw [hk] at h21; cases h21
          | some k =>
            rw [hk] at h21
            have h22 : valA kvs k = some z := h21
            obtain ⟨xs, g1, g2⟩ := dn_ro ra t hdn
            obtain rfl : v = Value.ref a := rx
            exact tail_any (dn_type I g1) slot_dict_getitem.lookup (dn_get (by have := c.hu; omega) I g1 g2 re ry hk h22 fun w' s' I' ⟨w, r', rw'⟩ => ⟨w, H, I', r', q w rw'⟩) hs
      | some kvs =>
        rw [hdc] at h2'
        have h3' : ((kD e).bind fun k => valA kvs k) = some z := h2'
        cases hk : kD e with
        | none => rw [hk] at h3'; cases h3'
        | some k =>
          rw [hk] at h3'
          have h4' : valA kvs k = some z := h3'
          obtain ⟨ks, g1, g2⟩ := dic_ro ra t hdc
          obtain ⟨w, hw, rw'⟩ := (kvs_val g2 k).1 z h4'
          have ey := kD_v hk re
          subst ey
          obtain rfl : v = Value.ref a := rx
          have g : DGet H a (kV k) (some w) := hw ▸ DGet.kr g1
          exact tail_any (dict_typeIs I g) slot_dict_getitem.lookup (d_getItem (by have := c.hu; omega) I g ry fun w' s' I' r' => ⟨w, H, I', r', q w rw'⟩) hs
  | str t =>
    cases re with
    | int i =>
      have h' : (if t.length ≤ sizeLine then (atI t.cps.toList i).map fun c => D.str ⟨#[c]⟩ else none) = some z := h
      by_cases c : t.length ≤ sizeLine
      · rw [if_pos c] at h'
        cases hc : atI t.cps.toList i with
        | none => rw [hc] at h'; cases h'
        | some k =>
          rw [hc] at h'
          cases h'
          exact ix_str value slice pins s σ H _ _ v u Q I rx ry ⟨t, i, k, rfl, rfl, c, hc, q _ (.str _)⟩ hs
      · rw [if_neg c] at h'
        cases h'
    | _ => cases h
  | _ => cases h
def rSl' (K : KW) (mg : Str → Option Value) : V → Option Int → Option Int → Hp → VK → Prop := fun x lo hi H Q => ∃ W m S d, RelA K mg m H S ∧ Rp K mg m H d x ∧ Post K mg W (Rp K mg) m H (slD d lo hi S) Q
theorem sl_any : SlR X (rSl' X.kw X.mg) := by
  intro pins s σ H x v vl vu lo hi sl Q I rx hsl pl pu ⟨W, m, S, d, ra, rd, p⟩
  cases rd with
  | fl t hv =>
    rename_i a o vs ds
    exact sl_list pins s σ H _ v vl vu lo hi sl Q I rx hsl pl pu ⟨a, vs, rfl, .inl (.inr ⟨_, t⟩), post_mk ra (hv.cut lo hi) p⟩
  | tup t hv =>
    rename_i a vs ds
    have p' : Post X.kw X.mg W (Rp X.kw X.mg) m H (.ok (.tup (cut ds lo hi)) S) Q := p
    refine sl_tupA pins s σ H _ v vl vu lo hi sl Q I rx hsl pl pu ⟨a, vs, rfl, t.t, fun ⟨z1, z2⟩ => ?_, fun _ => post_tup ra (hv.cut lo hi) p'⟩
    have e : cut ds lo hi = ds := by
      unfold cut
      rw [hv.length] at z1 z2
      rw [z1, z2]
      simp
    rw [e] at p'
    exact p'.now ra (.tup t hv)
  | loc t =>
    rename_i n a _
    have p' : Post X.kw X.mg W (Rp X.kw X.mg) m H (match lstAt S n with
      | some ds => mk (.lst (cut ds lo hi)) S
      | none => .bad) Q := p
    cases hl : lstAt S n with
    | none => rw [hl] at p'; exact p'.elim
    | some ds =>
      rw [hl] at p'
      obtain ⟨vs, h3, h4⟩ := ra.seq t hl
      exact sl_list pins s σ H _ v vl vu lo hi sl Q I rx hsl pl pu ⟨a, vs, rfl, h3, post_mk ra (h4.cut lo hi) p'⟩
  | str z =>
    have p' : Post X.kw X.mg W (Rp X.kw X.mg) m H (if z.length ≤ sizeLine then .ok (.str (L2.cutS z lo hi)) S else .bad) Q := p
    by_cases c : z.length ≤ sizeLine
    · rw [if_pos c] at p'
      exact sl_str pins s σ H _ v vl vu lo hi sl Q I rx hsl pl pu ⟨z, rfl, c, p'.now ra (.str _)⟩
    · rw [if_neg c] at p'
      exact p'.elim
  | _ => exact p.elim
def rSet' (K : KW) (mg : Str → Option Value) : TSet := fun o i v H Q => ∃ m S d e f S', RelA K mg m H S ∧ Rp K mg m H d o ∧ Rp K mg m H e i ∧ Rp K mg m H f v ∧ setIx d e f S = some S' ∧ ∀ H', Le m m H H' → RelA K mg m H' S' → Q H'
theorem set_any {cb : Bool} (c : Ctx cb X) : PSet X (rSet' X.kw X.mg) := by
  intro pins s σ H o i v ov iv u Q I ro ri rv ⟨m, S, d, e, f, S', ra, rd, re, rf, h, q⟩
  cases rd with
  | loc t =>
    rename_i n a _
    have h' : (match S[n]? with
      | some (.lst ds) => match (generalizing := false) e with
        | .int k => (ixN ds.length k).map fun j => S.set n (.lst (ds.set j f))
        | _ => none
      | some (.dic kvs) => (kD e).bind fun k => if kvs.length < sizeLine then some (S.set n (.dic (putA kvs k f))) else none
      | some (.dn kvs) => (kT e).bind fun k => if kvs.length < sizeLine then some (S.set n (.dn (putA kvs k f))) else none
      | _ => none) = some S' := h
    cases hl : S[n]? with
    | none => rw [hl] at h'; cases h'
    | some so =>
      rw [hl] at h'
      cases so with
      | lst ds =>
        cases re with
        | int k =>
          have h'' : ((ixN ds.length k).map fun j => S.set n (.lst (ds.set j f))) = some S' := h'
          obtain ⟨vs, h1, h2⟩ := ra.lst t hl
          cases hj : ixN ds.length k with
          | none => rw [hj] at h''; cases h''
          | some j =>
            rw [hj] at h''
            cases h''
            exact set_list pins s σ H _ _ _ ov iv u Q I ro ri rv ⟨a, vs, k, j, rfl, rfl, h1, by rw [h2.length]; exact hj, q _ (Le.write ra t hl h1) (ra.write t hl h1 (h2.set rf j))⟩
        | _ => cases h'
      | dn kvs =>
        have h'' : ((kT e).bind fun k => if kvs.length < sizeLine then some (S.set n (.dn (putA kvs k f))) else none) = some S' := h'
        cases hk : kT e with
        | none => rw [hk] at h''; cases h''
        | some k =>
          rw [hk] at h''
          have h3' : (if kvs.length < sizeLine then some (S.set n (.dn (putA kvs k f))) else none) = some S' := h''
          by_cases cl : kvs.length < sizeLine
          · rw [if_pos cl] at h3'
            cases h3'
            obtain ⟨xs, hb, g1, g2⟩ := ra.at_ n _ _ t hl
            have hb' : _ = false := hb
            subst hb'
            obtain rfl : ov = Value.ref a := ro
            have hlen : xs.length < sizeLine := by
              have e : (kvs.map (·.1)).length = (xs.map (·.1)).length := by rw [g2.1]
              rw [List.length_map, List.length_map] at e
              omega
            refine dn_set (by have := c.hu; omega) I g1 g2.2.1 re ri hk rv hlen fun b' s' ev hb2 I' => ?_
            have le : Le m m H (upd H a (DnO X.w a (putX xs k b' v))) := Le.writeO t g1 trivial
            exact ⟨_, I', q _ le (ra.writeO t g1 trivial ⟨_, rfl, upd_same, nk_put (g2.mov le.lt) (hb2.mono le) (rf.mono le)⟩)⟩
          · rw [if_neg cl] at h3'
            cases h3'
      | dic kvs =>
        have h'' : ((kD e).bind fun k => if kvs.length < sizeLine then some (S.set n (.dic (putA kvs k f))) else none) = some S' := h'
        cases hk : kD e with
        | none => rw [hk] at h''; cases h''
        | some k =>
          rw [hk] at h''
          have h3' : (if kvs.length < sizeLine then some (S.set n (.dic (putA kvs k f))) else none) = some S' := h''
          by_cases cl : kvs.length < sizeLine
          · rw [if_pos cl] at h3'
            cases h3'
            obtain ⟨hb, ks, g1, g2⟩ := dic_w ra t hl
            subst hb
            have ey := kD_v hk re
            subst ey
            obtain rfl : ov = Value.ref a := ro
            have le : Le m m H (upd H a (.dK (putK ks k v))) := Le.writeO t g1 trivial
            refine d_setItem (by have := c.hu; omega) I (DPut.k g1 (by rw [← kvs_len g2]; exact cl)) ri rv fun s' I' => ⟨_, I', q _ le (ra.writeO t g1 trivial ⟨_, rfl, upd_same, kvs_put (kvs_mono g2 le) (rf.mono le)⟩)⟩
          · rw [if_neg cl] at h3'
            cases h3'
      | _ => cases h'
  | _ => cases h
end
end CC
namespace CC
open PySem PySem.Spec PyProof.Rows L2
def rBi (K : KW) (mg : Str → Option Value) (b : Bi) : List V → Hp → VK → Prop := fun vs H Q => ∃ W m S ds, RelA K mg m H S ∧ Rps K mg m H ds vs ∧ Post K mg W (Rp K mg) m H (biD b ds S) Q
section
variable {K : KW} {mg : Str → Option Value} {m : Mp} {H : Hp} {S : Sto} {Q : VK} {W : XK}
theorem post_opt {α β : Type} {rel : Mp → Hp → α → β → Prop} {Q : β → Hp → Prop} {o : Option α} (h : Post K mg W rel m H (R.opt o S) Q) : ∃ d, o = some d ∧ Post K mg W rel m H (.ok d S) Q := by
  cases o with
  | none => exact h.elim
  | some d => exact ⟨d, rfl, h⟩
theorem rps1 {d : D} {vs : List V} (h : Rps K mg m H [d] vs) : ∃ v, vs = [v] ∧ Rp K mg m H d v := by
  cases h with
  | cons h1 h2 => cases h2; exact ⟨_, rfl, h1⟩
theorem rps2 {d e : D} {vs : List V} (h : Rps K mg m H [d, e] vs) : ∃ v w, vs = [v, w] ∧ Rp K mg m H d v ∧ Rp K mg m H e w := by
  cases h with
  | cons h1 h2 =>
    obtain ⟨w, rfl, h3⟩ := rps1 h2
    exact ⟨_, _, rfl, h1, h3⟩
def lenS (x : D) (S : Sto) : Option Nat := match x with
  | .str z => if z.length ≤ sizeLine then some z.length else none
  | .tup ds => some ds.length
  | .fl ds => some ds.length
  | .loc n => (lstAt S n).map List.length
  | _ => none
theorem lenV_ok (ra : RelA K mg m H S) {d : D} {x : V} {n : Nat} (r : Rp K mg m H d x) (h : lenS d S = some n) : LenV K x H n := by
  cases r with
  | str z =>
    have h' : (if z.length ≤ sizeLine then some z.length else none) = some n := h
    by_cases c : z.length ≤ sizeLine
    · rw [if_pos c] at h'
      cases h'
      exact ⟨c, rfl⟩
    · rw [if_neg c] at h'
      cases h'
  | tup t hs =>
    cases h
    exact .inr ⟨_, t.t, hs.length.symm⟩
  | fl t hs =>
    cases h
    exact .inl ⟨_, .inl (.inr ⟨_, t⟩), hs.length.symm⟩
  | loc t =>
    rename_i k a _
    have h' : (lstAt S k).map List.length = some n := h
    cases q : lstAt S k with
    | none => rw [q] at h'; cases h'
    | some ds =>
      rw [q] at h'
      cases h'
      obtain ⟨vs, h1, h2⟩ := ra.seq t q
      exact .inl ⟨vs, h1, h2.length.symm⟩
  | _ => cases h
theorem lenD_cases {d : D} {S : Sto} {n : Nat} (h : lenD d S = some n) : lenS d S = some n ∨ (∃ k kvs, d = .loc k ∧ dicAt S k = some kvs ∧ n = kvs.length) ∨ (∃ ks ds, d = .fd ks ds ∧ n = (ks.zip ds).length) ∨ (∃ k kvs, d = .loc k ∧ dnAt S k = some kvs ∧ n = kvs.length) ∨ ∃ ks ds, d = .fm ks ds ∧ n = (ks.zip ds).length := by
  cases d with
  | fd ks ds =>
    have h' : some (ks.zip ds).length = some n := h
    cases h'
    exact .inr (.inr (.inl ⟨ks, ds, rfl, rfl⟩))
  | fm ks ds =>
    have h' : some (ks.zip ds).length = some n := h
    cases h'
    exact .inr (.inr (.inr (.inr ⟨ks, ds, rfl, rfl⟩)))
  | loc k =>
    have h' : lenL (lstAt S k) (dicAt S k) (dnAt S k) = some n := h
    show (lstAt S k).map List.length = some n ∨ _
    cases q : lstAt S k with
    | some ds => rw [q] at h'; exact .inl h'
    | none =>
      rw [q] at h'
      cases q2 : dicAt S k with
      | none =>
        rw [q2] at h'
        have h2 : (dnAt S k).map List.length = some n := h'
        cases q3 : dnAt S k with
        | none => rw [q3] at h2; cases h2
        | some kvs => rw [q3] at h2; cases h2; exact .inr (.inr (.inr (.inl ⟨k, kvs, rfl, q3, rfl⟩)))
      | some kvs => rw [q2] at h'; cases h'; exact .inr (.inl ⟨k, kvs, rfl, q2, rfl⟩)
  | _ => exact .inl h
theorem ints_at (ra : RelA K mg m H S) {d : D} {x : V} {ns : List Int} (t : Rp K mg m H d x) (h : (lstD S d).bind intsOf = some ns) : ∃ a, x = .ref a ∧ SqL K H a (ns.map V.int) := by
  cases q : lstD S d with
  | none => rw [q] at h; cases h
  | some ds =>
    rw [q] at h
    obtain ⟨a, vs, e, h1, h2⟩ := ra.seqD t q
    rw [h2.ints h] at h1
    exact ⟨a, e, h1⟩
theorem bls_at (ra : RelA K mg m H S) {d : D} {x : V} {ns : List Bool} (t : Rp K mg m H d x) (h : (lstD S d).bind blsOf = some ns) : ∃ a, x = .ref a ∧ SqL K H a (ns.map V.bl) := by
  cases q : lstD S d with
  | none => rw [q] at h; cases h
  | some ds =>
    rw [q] at h
    obtain ⟨a, vs, e, h1, h2⟩ := ra.seqD t q
    rw [h2.bls h] at h1
    exact ⟨a, e, h1⟩
theorem tyX_ok (ra : RelA K mg m H S) {d : D} {x : V} {a : String} (r : Rp K mg m H d x) (h : tyOfD d S = some a) : TyX K H x (.type a) := by
  cases r with
  | non => cases h; exact .base .non
  | bl b => cases h; exact .base (.bl b)
  | int i => cases h; exact .base (.int i)
  | str z => cases h; exact .base (.str z)
  | fl t hs => cases h; exact .base (.frz t)
  | fd t hk hs => cases h; exact .fDict t
  | tup t hs =>
    cases h
    rcases t with t | ⟨o, its, n, t, c, _⟩
    · exact .base (.tup t)
    · exact .kTuple t c
  | loc t =>
    rename_i k p _
    have h' : (match S[k]? with
      | some (.lst _) => some "list"
      | some (.dic _) => some "dict"
      | _ => none) = some a := h
    cases q : S[k]? with
    | none => rw [q] at h'; cases h'
    | some so =>
      rw [q] at h'
      cases so with
      | lst ds =>
        cases h'
        obtain ⟨vs, h1, _⟩ := ra.lst t q
        exact .base (.lst h1)
      | dic _ =>
        cases h'
        obtain ⟨ks, _, h1, _⟩ := ra.at_ k (p, _) _ t q
        exact .base (.dK h1)
      | _ => cases h'
  | _ => cases h
end
def someTy : List String := ["NoneType", "bool", "int", "str", "tuple", "list", "dict"]
theorem kit_some : ∀ a ∈ someTy, ∀ b ∈ ["int", "bool", "str", "tuple", "list", "dict"], kitB a b = some (subTy a b) := by decide +kernel
theorem tyOfD_some {d : D} {S : Sto} {a : String} (h : tyOfD d S = some a) : a ∈ someTy := by
  unfold tyOfD at h
  cases d with
  | loc k =>
    simp only at h
    cases q : S[k]? with
    | none => rw [q] at h; cases h
    | some so => rw [q] at h; cases so <;> first | (cases h; done) | (cases h; decide)
  | _ => first | (cases h; done) | (cases h; decide)
theorem known_mem {b : String} (h : knownTy b = true) : b ∈ ["int", "bool", "str", "tuple", "list", "dict"] := by
  unfold knownTy at h
  simp only [Bool.or_eq_true, beq_iff_eq] at h
  simp only [List.mem_cons, List.not_mem_nil, or_false]
  rcases h with ((((h | h) | h) | h) | h) | h <;> simp [h]
theorem kitOne_ok {K : PySem.W.Frag} {a b : String} (ha : a ∈ someTy) (hb : knownTy b = true) : PySem.W.kitOne K (.type a) (.type b) = some (subTy a b) := kit_ty (kit_some a ha b (known_mem hb))
theorem leastI_mem : ∀ (l : List Int) (m : Int), leastI m l ∈ m :: l
  | [], m => by simp [leastI]
  | x :: r, m => by
    unfold leastI
    have := leastI_mem r (if x < m then x else m)
    rcases List.mem_cons.mp this with h | h
    · rw [h]
      split <;> simp
    · exact List.mem_cons_of_mem _ (List.mem_cons_of_mem _ h)
theorem leastI_le : ∀ (l : List Int) (m : Int), ∀ y ∈ m :: l, leastI m l ≤ y
  | [], m, y, h => by simp at h; subst h; exact Int.le_refl _
  | x :: r, m, y, h => by
    unfold leastI
    have ih := leastI_le r (if x < m then x else m)
    have h0 := ih _ List.mem_cons_self
    rcases List.mem_cons.mp h with e | h
    · subst e
      refine Int.le_trans h0 ?_
      split <;> omega
    · rcases List.mem_cons.mp h with e | h
      · subst e
        refine Int.le_trans h0 ?_
        split <;> omega
      · exact ih y (List.mem_cons_of_mem _ h)
theorem mostI_mem : ∀ (l : List Int) (m : Int), mostI m l ∈ m :: l
  | [], m => by simp [mostI]
  | x :: r, m => by
    unfold mostI
    have := mostI_mem r (if m < x then x else m)
    rcases List.mem_cons.mp this with h | h
    · rw [h]
      split <;> simp
    · exact List.mem_cons_of_mem _ (List.mem_cons_of_mem _ h)
theorem mostI_le : ∀ (l : List Int) (m : Int), ∀ y ∈ m :: l, y ≤ mostI m l
  | [], m, y, h => by simp at h; subst h; exact Int.le_refl _
  | x :: r, m, y, h => by
    unfold mostI
    have ih := mostI_le r (if m < x then x else m)
    have h0 := ih _ List.mem_cons_self
    rcases List.mem_cons.mp h with e | h
    · subst e
      refine Int.le_trans ?_ h0
      split <;> omega
    · rcases List.mem_cons.mp h with e | h
      · subst e
        refine Int.le_trans ?_ h0
        split <;> omega
      · exact ih y (List.mem_cons_of_mem _ h)
section
variable {X : Cx}
theorem dn_len {pins : List (Addr × Obj)} {σ : L2.St} {H : Hp} {s : Shared} {m : Mp} {A : Around} {E : Value → Shared → Prop} {a : Addr} {xs : List (NestedKey × Addr × V)} {kvs : List (NestedKey × D)} (I : Inv X pins σ H s) (h : Rd H a (DnO X.w a xs)) (nk : NKvs X.kw X.mg m H kvs xs)
    {Q : Value → Shared → Prop} (q : ∀ t s', Inv X pins σ H s' → Q (.int ((kvs.length : Nat) : Int) t) s') : wpAny (model X.prog X.w) A (call (.builtin "len") [.ref a]) Q E s := by
  obtain ⟨z1, _, hsys, ys, xv, dd⟩ := dn_of I h nk.2.1
  have hl : xs.length = ys.length := Paired.length xv
  have hk : kvs.length = xs.length := by
    have e : (kvs.map (·.1)).length = (xs.map (·.1)).length := by rw [nk.1]
    rwa [List.length_map, List.length_map] at e
  refine call_len_dictH (knd := nestedKind X.prog X.w) hsys dd (by rw [← hl]; rw [sizeLine_eq] at z1; omega) ?_
  rw [← hl, ← hk]
  exact q _ _ (I.tok _)
theorem bi_len : CallR X (.builtin "len") (rBi X.kw X.mg .len) := by
  intro pins s σ H xs us Q I r ⟨W, m, S, ds, ra, rs, p⟩
  cases ds with
  | nil => exact p.elim
  | cons d ds =>
    cases ds with
    | cons _ _ => exact p.elim
    | nil =>
      obtain ⟨x, rfl, rx⟩ := rps1 rs
      obtain ⟨z, hz, p'⟩ := post_opt (show Post X.kw X.mg W (Rp X.kw X.mg) m H (R.opt ((lenD d S).map fun n => D.int n) S) Q from p)
      cases hl : lenD d S with
      | none => rw [hl] at hz; cases hz
      | some n =>
        rw [hl] at hz
        cases hz
        rcases lenD_cases hl with hl | ⟨k, kvs, rfl, hdc, rfl⟩ | ⟨ks, fs, rfl, rfl⟩ | ⟨k, kvs, rfl, hdc, rfl⟩ | ⟨ks, fs, rfl, rfl⟩
        · exact call_len pins s σ H _ us Q I r ⟨x, n, rfl, lenV_ok ra rx hl, p'.now ra (.int _)⟩
        · cases rx with
          | loc t =>
            rename_i a _
            obtain ⟨ks, g1, g2⟩ := dic_ro ra t hdc
            obtain ⟨u, rfl, ru⟩ := vals1 r
            obtain rfl : u = Value.ref a := ru
            exact d_len I g1 fun t' s' I' => ⟨.int kvs.length, H, I', ⟨t', by rw [kvs_len g2]⟩, p'.now ra (.int _)⟩
        · cases rx with
          | fd t hk hs =>
            rename_i a o kvs
            have g2 := kvs_zip hk hs
            obtain ⟨u, rfl, ru⟩ := vals1 r
            obtain rfl : u = Value.ref a := ru
            exact d_len I (.inr ⟨o, t⟩) fun t' s' I' => ⟨.int (ks.zip fs).length, H, I', ⟨t', by rw [kvs_len g2]⟩, p'.now ra (.int _)⟩
        · cases rx with
          | loc t =>
            rename_i a _
            obtain ⟨xs, g1, g2⟩ := dn_ro ra t hdc
            obtain ⟨u, rfl, ru⟩ := vals1 r
            obtain rfl : u = Value.ref a := ru
            exact dn_len I g1 g2 fun t' s' I' => ⟨.int kvs.length, H, I', ⟨t', rfl⟩, p'.now ra (.int _)⟩
        · cases rx with
          | fm t hk hq hs =>
            rename_i a o xs
            obtain ⟨u, rfl, ru⟩ := vals1 r
            obtain rfl : u = Value.ref a := ru
            exact dn_len I (.inr ⟨o, t⟩) (nkvs_zip hk hq hs) fun t' s' I' => ⟨.int (ks.zip fs).length, H, I', ⟨t', rfl⟩, p'.now ra (.int _)⟩
theorem bi_abs : CallR X (.builtin "abs") (rBi X.kw X.mg .abs) := by
  intro pins s σ H xs us Q I r ⟨W, m, S, ds, ra, rs, p⟩
  match ds, p, rs with
  | [.int i], p, rs =>
    obtain ⟨x, rfl, rx⟩ := rps1 rs
    cases rx
    exact call_abs pins s σ H _ us Q I r ⟨i, rfl, Post.now p ra (.int _)⟩
theorem int_tup {t : Addr} {ns : List Int} {its : List Value} {s : Shared} (r : Vals (ns.map V.int) its) (i : Nat) (v : Value) (h : its.toArray[i]? = some v) : ∃ k, v = .int (ns.getD i 0) k := by
  have hl := r.length
  rw [List.length_map] at hl
  have h' : its[i]? = some v := by simpa using h
  have hi : i < its.length := (List.getElem?_eq_some_iff.mp h').1
  have hn : i < ns.length := by omega
  have e1 : (ns.map V.int)[i]? = some (.int ns[i]) := by rw [List.getElem?_map, List.getElem?_eq_getElem hn]; rfl
  obtain ⟨u, hu, ru⟩ := Vals.get r e1
  rw [h'] at hu
  cases hu
  obtain ⟨k, e⟩ := ru
  exact ⟨k, by rw [e, List.getD_eq_getElem?_getD, List.getElem?_eq_getElem hn]; rfl⟩
theorem tup_best {X : Cx} {pins : List (Addr × Obj)} {σ : L2.St} {H : Hp} {s : Shared} {n' : Obj} {ns : List Int} {b : Nat} {v : Value} {h' : Heap} {tk : Nat} {Q : VK} (I : Inv X pins σ H s) (hb : b < ns.length) (hv : ∃ k, v = Value.int (ns.getD b 0) k)
    (hk : ∀ c o, c ∉ [s.heap.objs.size] → (s.heap.push n').get? c = some o → h'.get? c = some o) (q : ns.getD b 0 ∈ ns → Q (.int (ns.getD b 0)) H) : EP X pins σ Q v { s with heap := h', toks := tk } := by
  obtain ⟨k, rfl⟩ := hv
  refine ⟨.int _, H, I.kept (t' := tk) fun c u e => hk c u (fun hmem => ?_) (Heap.get?_push_of_some _ e), ⟨k, rfl⟩, q ?_⟩
  · have e1 : c = s.heap.objs.size := List.mem_singleton.mp hmem
    have e2 := Heap.lt_size e
    rw [e1] at e2
    exact absurd e2 (Nat.lt_irrefl _)
  · rw [List.getD_eq_getElem?_getD, List.getElem?_eq_getElem hb]
    exact List.getElem_mem hb
theorem getD_all {ns : List Int} {j : Int} (h : j ∈ ns) : ∃ i, i < ns.length ∧ ns.getD i 0 = j := by
  obtain ⟨i, hi, e⟩ := List.mem_iff_getElem.mp h
  exact ⟨i, hi, by rw [List.getD_eq_getElem?_getD, List.getElem?_eq_getElem hi, ← e]; rfl⟩
theorem cr_maxT (hc : X.calm = true) : CallR X (.builtin "max") (fun vs H Q => ∃ (a : Addr) (ns : List Int), vs = [V.ref a] ∧ SqT X.K H a (ns.map V.int) ∧ 0 < ns.length ∧ ∀ m, m ∈ ns → (∀ y, y ∈ ns → y ≤ m) → Q (.int m) H) := by
  intro pins s σ H vs us Q I r ⟨a, ns, e, hs, hne, q⟩
  subst e
  obtain ⟨its, rv, ⟨o, ho, hcl, n, hd⟩, _⟩ := I.tuple hs
  rw [Vals.ref1 r]
  have ht : s.heap.IsTuple a its.toArray := ⟨o, ho, hcl, n, hd⟩
  have hlt : a < s.heap.objs.size := Heap.lt_size ho
  have hl := rv.length
  rw [List.length_map] at hl
  refine call_max_walk (wpAny_pyIter_tuple ht ?_)
  refine ⟨_, _, _, _, _, _, _, rfl, Walks.tuple (A := X.A.in1) (I.ok.hd hc) s.heap.objs.size a (Nat.ne_of_lt hlt) its.toArray, ⟨⟨_, Heap.get?_push_size _ rfl, rfl, rfl⟩, ht.at fun o e => Heap.get?_push_of_some _ e⟩, fun b hb => ?_, by simpa using (by omega : 0 < its.length),
    CmpOf.ints_gt (fun i => ns.getD i 0) (fun i v h => int_tup (t := a) (s := s) rv i v h), fun v h' tk hP hk => ?_⟩
  · show b < (s.heap.push _).objs.size
    rw [Heap.size_push]
    rcases List.mem_cons.mp hb with e | hb
    · rw [e]
      exact Nat.lt_succ_self _
    · rw [List.mem_singleton.mp hb]
      exact Nat.lt_succ_of_lt hlt
  · obtain ⟨b1, b2⟩ := argBest_gt (fun i => ns.getD i 0) (its.toArray.size - 1)
    have hz : its.toArray.size = ns.length := by simpa using hl.symm
    show EP X pins σ Q v { s with heap := h', toks := tk }
    refine tup_best (s := s) (n' := { cls := .type "tuple_iterator", data := .fields #[.ref a, .int 0 0] }) I (by omega) (int_tup (t := a) (s := s) rv _ v hP) hk fun hm => q _ hm fun j hj => ?_
    obtain ⟨i, hi, e⟩ := getD_all hj
    rw [← e]
    exact b2 i (by omega)
theorem cr_minT (hc : X.calm = true) : CallR X (.builtin "min") (fun vs H Q => ∃ (a : Addr) (ns : List Int), vs = [V.ref a] ∧ SqT X.K H a (ns.map V.int) ∧ 0 < ns.length ∧ ∀ m, m ∈ ns → (∀ y, y ∈ ns → m ≤ y) → Q (.int m) H) := by
  intro pins s σ H vs us Q I r ⟨a, ns, e, hs, hne, q⟩
  subst e
  obtain ⟨its, rv, ⟨o, ho, hcl, n, hd⟩, _⟩ := I.tuple hs
  rw [Vals.ref1 r]
  have ht : s.heap.IsTuple a its.toArray := ⟨o, ho, hcl, n, hd⟩
  have hlt : a < s.heap.objs.size := Heap.lt_size ho
  have hl := rv.length
  rw [List.length_map] at hl
  refine call_min_walk (wpAny_pyIter_tuple ht ?_)
  refine ⟨_, _, _, _, _, _, _, rfl, Walks.tuple (A := X.A.in1) (I.ok.hd hc) s.heap.objs.size a (Nat.ne_of_lt hlt) its.toArray, ⟨⟨_, Heap.get?_push_size _ rfl, rfl, rfl⟩, ht.at fun o e => Heap.get?_push_of_some _ e⟩, fun b hb => ?_, by simpa using (by omega : 0 < its.length),
    CmpOf.ints_lt (fun i => ns.getD i 0) (fun i v h => int_tup (t := a) (s := s) rv i v h), fun v h' tk hP hk => ?_⟩
  · show b < (s.heap.push _).objs.size
    rw [Heap.size_push]
    rcases List.mem_cons.mp hb with e | hb
    · rw [e]
      exact Nat.lt_succ_self _
    · rw [List.mem_singleton.mp hb]
      exact Nat.lt_succ_of_lt hlt
  · obtain ⟨b1, b2⟩ := argBest_lt (fun i => ns.getD i 0) (its.toArray.size - 1)
    have hz : its.toArray.size = ns.length := by simpa using hl.symm
    show EP X pins σ Q v { s with heap := h', toks := tk }
    refine tup_best (s := s) (n' := { cls := .type "tuple_iterator", data := .fields #[.ref a, .int 0 0] }) I (by omega) (int_tup (t := a) (s := s) rv _ v hP) hk fun hm => q _ hm fun j hj => ?_
    obtain ⟨i, hi, e⟩ := getD_all hj
    rw [← e]
    exact b2 i (by omega)
theorem sq_ints {K : KW} {mg : Str → Option Value} {m : Mp} {H : Hp} {S : Sto} {d : D} {x : V} {ns : List Int} (ra : RelA K mg m H S) (rx : Rp K mg m H d x) (q : (sqD S d).bind intsOf = some ns) : ∃ a, x = .ref a ∧ (SqL K H a (ns.map V.int) ∨ SqT K H a (ns.map V.int)) := by
  by_cases ht : ∃ ds, d = .tup ds
  · obtain ⟨ds, rfl⟩ := ht
    cases rx with
    | tup h hs =>
      have e := hs.ints (show intsOf ds = some ns from q)
      subst e
      exact ⟨_, rfl, .inr h.t⟩
  · have e : sqD S d = lstD S d := by
      cases d with
      | tup ds => exact absurd ⟨ds, rfl⟩ ht
      | _ => rfl
    rw [e] at q
    obtain ⟨a, e, g⟩ := ints_at ra rx q
    exact ⟨a, e, .inl g⟩
theorem bi_max (hc : X.calm = true) : CallR X (.builtin "max") (rBi X.kw X.mg .max) := by
  intro pins s σ H xs us Q I r ⟨W, m, S, ds, ra, rs, p⟩
  match ds, p, rs with
  | [.int i, .int j], p, rs =>
    obtain ⟨x, y, rfl, rx, ry⟩ := rps2 rs
    cases rx
    cases ry
    exact call_max2 hc pins s σ H _ us Q I r ⟨i, j, rfl, Post.now p ra (.int _)⟩
  | [d], p, rs =>
    obtain ⟨x, rfl, rx⟩ := rps1 rs
    cases q : (sqD S d).bind intsOf with
    | none =>
      simp only [biD, q] at p
      exact p.elim
    | some ns =>
      cases ns with
      | nil =>
        simp only [biD, q] at p
        exact p.elim
      | cons z l =>
        simp only [biD, q] at p
        obtain ⟨a, rfl, g | g⟩ := sq_ints ra rx q
        · refine cr_max hc pins s σ H _ us Q I r ⟨_, z :: l, rfl, g, by simp, fun k hk hle => ?_⟩
          have e : k = mostI z l := Int.le_antisymm (mostI_le l z k hk) (hle _ (mostI_mem l z))
          rw [e]
          exact Post.now p ra (.int _)
        · refine cr_maxT hc pins s σ H _ us Q I r ⟨_, z :: l, rfl, g, by simp, fun k hk hle => ?_⟩
          have e : k = mostI z l := Int.le_antisymm (mostI_le l z k hk) (hle _ (mostI_mem l z))
          rw [e]
          exact Post.now p ra (.int _)
theorem bi_min (hc : X.calm = true) : CallR X (.builtin "min") (rBi X.kw X.mg .min) := by
  intro pins s σ H xs us Q I r ⟨W, m, S, ds, ra, rs, p⟩
  match ds, p, rs with
  | [.int i, .int j], p, rs =>
    obtain ⟨x, y, rfl, rx, ry⟩ := rps2 rs
    cases rx
    cases ry
    exact call_min2 hc pins s σ H _ us Q I r ⟨i, j, rfl, Post.now p ra (.int _)⟩
  | [d], p, rs =>
    obtain ⟨x, rfl, rx⟩ := rps1 rs
    cases q : (sqD S d).bind intsOf with
    | none =>
      simp only [biD, q] at p
      exact p.elim
    | some ns =>
      cases ns with
      | nil =>
        simp only [biD, q] at p
        exact p.elim
      | cons z l =>
        simp only [biD, q] at p
        obtain ⟨a, rfl, g | g⟩ := sq_ints ra rx q
        · refine cr_min hc pins s σ H _ us Q I r ⟨_, z :: l, rfl, g, by simp, fun k hk hle => ?_⟩
          have e : k = leastI z l := Int.le_antisymm (hle _ (leastI_mem l z)) (leastI_le l z k hk)
          rw [e]
          exact Post.now p ra (.int _)
        · refine cr_minT hc pins s σ H _ us Q I r ⟨_, z :: l, rfl, g, by simp, fun k hk hle => ?_⟩
          have e : k = leastI z l := Int.le_antisymm (hle _ (leastI_mem l z)) (leastI_le l z k hk)
          rw [e]
          exact Post.now p ra (.int _)
theorem bi_sum (hc : X.calm = true) : CallR X (.builtin "sum") (rBi X.kw X.mg .sum) := by
  intro pins s σ H xs us Q I r ⟨W, m, S, ds, ra, rs, p⟩
  match ds, p, rs with
  | [d], p, rs =>
    obtain ⟨x, rfl, rx⟩ := rps1 rs
    cases q : (lstD S d).bind intsOf with
    | none =>
      simp only [biD, q] at p
      exact p.elim
    | some ns =>
      simp only [biD, q] at p
      obtain ⟨a, rfl, g⟩ := ints_at ra rx q
      exact cr_sum hc pins s σ H _ us Q I r ⟨_, ns, rfl, g, Post.now p ra (.int _)⟩
theorem bi_all (hc : X.calm = true) : CallR X (.builtin "all") (rBi X.kw X.mg .all) := by
  intro pins s σ H xs us Q I r ⟨W, m, S, ds, ra, rs, p⟩
  match ds, p, rs with
  | [d], p, rs =>
    obtain ⟨x, rfl, rx⟩ := rps1 rs
    cases q : (lstD S d).bind blsOf with
    | none =>
      simp only [biD, q] at p
      exact p.elim
    | some ns =>
      simp only [biD, q] at p
      obtain ⟨a, rfl, g⟩ := bls_at ra rx q
      exact cr_all hc pins s σ H _ us Q I r ⟨_, ns, rfl, g, Post.now p ra (.bl _)⟩
theorem bi_int : CallR X (.type "int") (rBi X.kw X.mg .int) := by
  intro pins s σ H xs us Q I r ⟨W, m, S, ds, ra, rs, p⟩
  match ds, p, rs with
  | [.int i], p, rs =>
    obtain ⟨x, rfl, rx⟩ := rps1 rs
    cases rx
    exact call_int1 pins s σ H _ us Q I r (.inl ⟨i, rfl, Post.now p ra (.int _)⟩)
  | [.bl b], p, rs =>
    obtain ⟨x, rfl, rx⟩ := rps1 rs
    cases rx
    exact call_int1 pins s σ H _ us Q I r (.inr ⟨b, rfl, Post.now p ra (.int _)⟩)
theorem biD_tuple {d : D} {S : Sto} : (∃ es, d = .tup es) ∨ biD .tuple [d] S = match lstD S d with
    | some ds => .ok (.tup ds) S
    | none => .bad := by
  cases d <;> first | exact .inl ⟨_, rfl⟩ | exact .inr rfl
theorem bi_tuple : CallR X (.type "tuple") (rBi X.kw X.mg .tuple) := by
  intro pins s σ H xs us Q I r ⟨W, m, S, ds, ra, rs, p⟩
  match ds, p, rs with
  | [], p, rs => exact p.elim
  | d :: e :: l, p, rs => cases d <;> exact p.elim
  | [d], p, rs =>
    obtain ⟨x, rfl, rx⟩ := rps1 rs
    rcases biD_tuple (d := d) (S := S) with ⟨es, rfl⟩ | hb
    · cases rx with
      | tup t hs => exact call_tuple_of pins s σ H _ us Q I r ⟨_, _, rfl, .inr ⟨t.t, Post.now p ra (.tup t hs)⟩⟩
    · rw [hb] at p
      cases q : lstD S d with
      | none =>
        simp only [q] at p
        exact p.elim
      | some es =>
        simp only [q] at p
        obtain ⟨a, vs, rfl, h1, h2⟩ := ra.seqD rx q
        exact call_tuple_of pins s σ H _ us Q I r ⟨_, vs, rfl, .inl ⟨h1, post_tup ra h2 p⟩⟩
theorem bi_isinst : CallR X (.builtin "isinstance") (rBi X.kw X.mg .isinst) := by
  intro pins s σ H xs us Q I r ⟨W, m, S, ds, ra, rs, p⟩
  match ds, p, rs with
  | [d, e], p, rs =>
    obtain ⟨x, y, rfl, rx, ry⟩ := rps2 rs
    obtain ⟨z, hz, p'⟩ := post_opt (show Post X.kw X.mg W (Rp X.kw X.mg) m H (R.opt ((isinst d e S).map D.bl) S) Q from p)
    have hz' : ((tyOfD d S).bind fun a => isT a e).map D.bl = some z := hz
    cases ht : tyOfD d S with
    | none => rw [ht] at hz'; cases hz'
    | some a =>
      rw [ht] at hz'
      have tx := tyX_ok ra rx ht
      have h1 : (isT a e).map D.bl = some z := hz'
      clear hz hz' p
      unfold isT at h1
      split at h1
      · rename_i b
        by_cases c : knownTy b = true
        · rw [if_pos c] at h1
          cases h1
          cases ry
          exact call_isi pins s σ H _ us Q I r ⟨x, .ty b, .type a, .type b, subTy a b, rfl, .ty b, tx, kitOne_ok (tyOfD_some ht) c, p'.now ra (.bl _)⟩
        · rw [if_neg c] at h1
          cases h1
      · rename_i b c
        by_cases k : (knownTy b && knownTy c) = true
        · rw [if_pos k] at h1
          cases h1
          obtain ⟨k1, k2⟩ := Bool.and_eq_true_iff.mp k
          cases ry with
          | @tup tp vs _ t hs =>
            obtain ⟨v1, v2, rfl, r1, r2⟩ := rps2 hs
            cases r1
            cases r2
            have kk : PySem.W.kitAny X.K (.type a) [.type b, .type c] = some (subTy a b || subTy a c) := by
              refine kitAny_cons (kitOne_ok (tyOfD_some ht) k1) (fun hb => ?_) (fun hb => by rw [hb]; rfl)
              rw [hb, Bool.false_or]
              exact kitAny_cons (kitOne_ok (tyOfD_some ht) k2) (fun hc => by rw [hc]; exact kitAny_nil) (fun hc => hc)
            rcases t with t | ⟨o, its, n, t, c1, c2, c3, c4⟩
            · exact call_isiT pins s σ H _ us Q I r ⟨x, tp, [.ty b, .ty c], .type a, [.type b, .type c], _, rfl, t, .cons (.ty b) (.cons (.ty c) .nil), tx, kk, p'.now ra (.bl _)⟩
            · have ei : its = #[.type b, .type c] := by
                obtain ⟨w1, w2, e1, q1, q2⟩ := vals2 c4
                have q1' : w1 = .type b := q1
                have q2' : w2 = .type c := q2
                subst q1'
                subst q2'
                rw [← Array.toArray_toList (xs := its), e1]
              obtain ⟨oc, od, oda, osl⟩ := o
              have e1 : oc = .type "tuple" := c1
              have e2 : oda = .seq its n := c2
              subst e1
              subst e2
              subst ei
              exact call_isiK pins s σ H _ us Q I r ⟨x, tp, od, [.type b, .type c], n, osl, .type a, _, rfl, t, tx, kk, p'.now ra (.bl _)⟩
        · rw [if_neg k] at h1
          cases h1
      · cases h1
end
end CC
namespace CC
open PySem PySem.Spec PyProof.Rows L2
namespace RT
section
variable {prog : Program} {w : World} {A : Around} {E : Value → Shared → Prop} {s : Shared}
theorem adj_rev (n : Nat) : Builtin.Slice.sliceAdjust none none (-1) (n : Int) = ((n : Int) - 1, -1) := rfl
theorem places_rev (n : Nat) : Builtin.Slice.slicePlaces ((n : Int) - 1) (-1) (-1) = n := by
  unfold Builtin.Slice.slicePlaces
  have h1 : ¬ ((-1 : Int) > 0) := by decide
  simp only [h1, if_false]
  have e : (- (-1 : Int)) = 1 := by decide
  rw [e, Int.ediv_one]
  split <;> omega
theorem sliceApplied_rev {sl : Addr} {vl vu vs : Value} {n : Nat} {Q : Int × Int × Nat → Shared → Prop} (hs : s.heap.IsSliceOf sl vl vu vs) (pl : IsPart vl none) (pu : IsPart vu none) (ps : IsPart vs (some (-1)))
    (h : Q ((n : Int) - 1, -1, n) s) : wpAny (model prog w) A (Builtin.Slice.sliceApplied (.ref sl) (pure (n : Int))) Q E s := by
  obtain ⟨os, hos, hcs, hds⟩ := id hs
  unfold Builtin.Slice.sliceApplied Builtin.Slice.sliceFields
  refine wpAny_bind (wpAny_bind (wpAny_field hos hds (x := vl) rfl (wpAny_bind (wpAny_field hos hds (x := vu) rfl (wpAny_bind (wpAny_field hos hds (x := vs) rfl (wpAny_pure ?_)))))))
  refine wpAny_bind (HT.slicePart_ ps ?_)
  show wpAny _ _ (if ((-1 : Int) == 0) = true then _ else _) _ _ s
  rw [if_neg (by decide)]
  refine wpAny_bind (HT.slicePart_ pl (wpAny_bind (HT.slicePart_ pu (wpAny_bind (wpAny_pure ?_)))))
  show wpAny _ _ (match Builtin.Slice.sliceAdjust none none (-1) (n : Int) with | (lo, hi) => pure (lo, (-1 : Int), Builtin.Slice.slicePlaces lo hi (-1))) _ _ s
  rw [adj_rev n]
  show wpAny _ _ (pure ((n : Int) - 1, (-1 : Int), Builtin.Slice.slicePlaces ((n : Int) - 1) (-1) (-1))) _ _ s
  rw [places_rev]
  exact wpAny_pure h
theorem filterMap_some {α β : Type} {f : α → Option β} {g : α → β} : ∀ {l : List α}, (∀ m ∈ l, f m = some (g m)) → l.filterMap f = l.map g
  | [], _ => rfl
  | x :: l, h => by
    rw [List.filterMap_cons, h x List.mem_cons_self, filterMap_some (l := l) fun m hm => h m (List.mem_cons_of_mem _ hm)]
    rfl
theorem pick_rev (xs : Array Value) : ((List.range xs.size).filterMap fun (m : Nat) => xs[(((xs.size : Int) - 1) + (m : Int) * -1).toNat]?).toArray = xs.toList.reverse.toArray := by
  congr 1
  have e : (List.range xs.size).filterMap (fun (m : Nat) => xs[(((xs.size : Int) - 1) + (m : Int) * -1).toNat]?) = (List.range xs.size).map fun m => xs.toList.reverse[m]?.getD .none := by
    refine filterMap_some fun m hm => ?_
    have hm := List.mem_range.mp hm
    have e1 : (((xs.size : Int) - 1) + (m : Int) * -1).toNat = xs.size - 1 - m := by omega
    rw [e1, List.getElem?_reverse (by simpa using hm)]
    have e2 : xs.toList.length = xs.size := by simp
    rw [e2, Array.getElem?_toList, Array.getElem?_eq_getElem (by omega)]
    rfl
  rw [e]
  apply List.ext_getElem
  · simp
  · intro i h1 h2
    rw [List.getElem_map, List.getElem_range, List.getElem?_eq_getElem h2]
    rfl
theorem range_rev (n : Nat) : Builtin.Str.strSliceIndices none none (-1) n = (List.range n).map fun k => n - 1 - k := by
  show sliceRange (if (-1 : Int) > 0 then 0 else (n : Int) - 1) (if (-1 : Int) > 0 then (n : Int) else -1) (-1) = _
  rw [if_neg (by decide), if_neg (by decide)]
  unfold sliceRange
  rw [if_neg (by decide)]
  have e : (if ((n : Int) - 1) > -1 then (((n : Int) - 1) - (-1) - (-1) - 1) / (- (-1)) else 0) = (n : Int) := by
    rw [show (- (-1 : Int)) = 1 from rfl, Int.ediv_one]
    split <;> omega
  rw [e]
  show (List.range ((n : Int).toNat)).map _ = _
  rw [Int.toNat_natCast]
  refine List.map_congr_left fun k hk => ?_
  have hk := List.mem_range.mp hk
  omega
theorem made_rev (x : Str) (t u : Tok) : sliceMade x t none none (some (-1, u)) = .str ⟨x.cps.toList.reverse.toArray⟩ := by
  unfold sliceMade
  rw [if_neg (by show ¬ (((-1 : Int) == 1 && _) = true); simp)]
  congr 2
  show ((Builtin.Str.strSliceIndices none none (-1) x.cps.size).filterMap (x.cps[·]?)).toArray = _
  rw [range_rev, List.filterMap_map]
  congr 1
  have e : (List.range x.cps.size).filterMap ((x.cps[·]?) ∘ fun k => x.cps.size - 1 - k) = (List.range x.cps.size).map fun m => x.cps.toList.reverse[m]?.getD 0 := by
    refine filterMap_some fun m hm => ?_
    have hm := List.mem_range.mp hm
    show x.cps[x.cps.size - 1 - m]? = _
    rw [List.getElem?_reverse (by simpa using hm)]
    have e2 : x.cps.toList.length = x.cps.size := by simp
    rw [e2, Array.getElem?_toList, Array.getElem?_eq_getElem (by omega)]
    rfl
  rw [e]
  apply List.ext_getElem
  · simp
  · intro i h1 h2
    rw [List.getElem_map, List.getElem_range, List.getElem?_eq_getElem h2]
    rfl
theorem getItem_tuple_rev {t sl : Addr} {items : Array Value} {vl vu vs : Value} {Q : Value → Shared → Prop} (ht : IsTup s.heap t items) (hs : s.heap.IsSliceOf sl vl vu vs) (pl : IsPart vl none) (pu : IsPart vu none) (ps : IsPart vs (some (-1)))
    (h : Q (.ref s.heap.objs.size) { s with heap := s.heap.push { cls := .type "tuple", data := .seq items.toList.reverse.toArray } })
    (hsz : items.size ≤ sizeLine) : wpAny (model prog w) A (getItem (.ref t) (.ref sl)) Q E s := by
  have htake : sizeOk (.seq items.toList.reverse.toArray) := by
    show items.toList.reverse.toArray.size ≤ sizeLine
    rw [List.size_toArray, List.length_reverse, Array.length_toList]
    omega
  obtain ⟨os, hos, hcs, hds⟩ := id hs
  have hTs : s.TypeIs (.ref sl) "slice" := ⟨os, hos, hcs⟩
  unfold getItem
  try with_reducible refine wpAny_holding ?_
  first | refine wpAny_bind (wpAny_pure ?_) | skip
  refine wpAny_bind (wpAny_sequenceKey ht.typeIs (by decide) ?_)
  refine wpAny_bind (wpAny_callSpecial?_slot (name := Str.ofString "__getitem__") ht.typeIs PyProof.Rows.slot_tuple_getitem
    (wpAny_call_entry PyProof.Rows.slot_tuple_getitem ht.typeIs entry_tuple_getitem ?_ (args_tuple_getitem _ _)))
  show wpAny _ _ (Builtin.Tuple.tupleItemsOf (.ref t) >>= _) _ _ s
  refine wpAny_bind (tupleItemsOf_ ht ?_)
  refine wpAny_bind (wpAny_typeOf hTs ?_)
  rw [if_pos (by decide)]
  refine wpAny_bind (sliceApplied_rev hs pl pu ps ?_)
  have hno : ¬ ((((items.size : Int) - 1) == 0 && (-1 : Int) == 1 && items.size == items.size) = true) := by
    intro q
    rw [Bool.and_eq_true, Bool.and_eq_true] at q
    exact absurd q.1.2 (by decide)
  show wpAny _ _ (if (((items.size : Int) - 1) == 0 && (-1 : Int) == 1 && items.size == items.size) = true then _ else _) _ _ s
  rw [if_neg hno, pick_rev]
  first
    | exact wpAny_bind (m := Builtin.Tuple.tupleExact _) (wpAny_newObj_type (wpAny_pure ⟨_, rfl, wpAny_pure h⟩) htake)
    | exact wpAny_bind (m := Builtin.Tuple.tupleExact _) (wpAny_newObj_type (wpAny_bind (wpAny_pure (wpAny_pure ⟨_, rfl, wpAny_pure h⟩))) htake)
    | exact wpAny_bind (wpAny_bind (m := Builtin.Tuple.tupleExact _) (wpAny_newObj_type (wpAny_pure (wpAny_pure ⟨_, rfl, wpAny_pure h⟩)) htake))
    | exact wpAny_bind (wpAny_bind (m := Builtin.Tuple.tupleExact _) (wpAny_newObj_type (wpAny_pure ⟨_, rfl, wpAny_pure h⟩) htake))
end
section
variable {X : Cx}
def tRevS (K : PySem.W.Frag) (te : TE) : TE := fun σ H Q => te σ H fun x H1 => (∃ a xs, x = .ref a ∧ SqL K H1 a xs ∧ ∀ p, H1 p = none → Q (.ref p) (upd H1 p (.lst xs.reverse))) ∨ (∃ a xs, x = .ref a ∧ SqT K H1 a xs ∧ ∀ p, H1 p = none → Q (.ref p) (upd H1 p (.tup xs.reverse))) ∨ (∃ y : Str, x = .str y ∧ y.length ≤ sizeLine ∧ Q (.str ⟨y.cps.toList.reverse.toArray⟩) H1)
theorem pe_revS {e : Expr} {te : TE} {k : Nat} {p1 p2 p3 pos : Pos} (he : PE X e te) : PE X (.Subscript e (.Slice none none (some (.UnaryOp .USub (.Constant (.int 1) k p1) p2)) p3) pos) (tRevS X.K te) := by
  refine ⟨fun pins s σ H Q I h => ?_⟩
  refine Subscript_ (thn (he.run pins s σ H _ I h) fun v s1 ⟨x, H1, I1, r1, q1⟩ => ?_)
  have hst : PO X (some (.UnaryOp .USub (.Constant (.int 1) k p1) p2)) (tPart (tUn (rU fun i => .int (-i)) (tC (.int 1)))) := po_some (pe_un un_neg pe_int)
  refine wpAny_Slice (thn (po_none.run pins s1 σ H1 (fun o H2 => o = none ∧ H2 = H1) I1 ⟨rfl, rfl⟩) fun vl s2 ⟨l, H2, I2, pl, el, e2⟩ => ?_)
  subst el e2
  refine thn (po_none.run pins s2 σ H2 (fun o H3 => o = none ∧ H3 = H2) I2 ⟨rfl, rfl⟩) fun vu s3 ⟨u, H3, I3, pu, eu, e3⟩ => ?_
  subst eu e3
  refine thn (hst.run pins s3 σ H3 (fun o H4 => o = some (-1) ∧ H4 = H3) I3 ⟨1, rfl, -1, rfl, rfl, rfl⟩) fun vs s4 ⟨o, H4, I4, ps, eo, e4⟩ => ?_
  subst eo e4
  have I5 : Inv X pins σ H4 { s4 with heap := s4.heap.push { cls := .type "slice", data := .fields #[vl, vu, vs] } } := I4.kept (t' := s4.toks) fun b ob q => Heap.get?_push_of_some _ q
  rcases q1 with ⟨a, xs, rfl, hx, q⟩ | ⟨a, xs, rfl, hx, q⟩ | ⟨y, rfl, hy, q⟩
  · cases r1
    obtain ⟨its, r, ht, hz⟩ := I5.list hx
    have hlen := r.length
    show wpAny (model X.prog X.w) X.A (subscriptTail e (.Slice none none (some (.UnaryOp .USub (.Constant (.int 1) k p1) p2)) p3) (.ref a) (.ref s4.heap.objs.size)) (EP X pins σ Q) X.xe { s4 with heap := s4.heap.push { cls := .type "slice", data := .fields #[vl, vu, vs] } }
    refine tail_any (ops := [.ref a, .ref s4.heap.objs.size]) ht.isList.typeIs (PySem.slot_list_getitem.lookup) ?_ (by with_unfolding_all rfl)
    refine wpAny_getItem_list_slice ht.isList (Heap.IsSliceOf.new _ vl vu vs) pl pu ps (by decide) ?_ (by rw [List.size_toArray]; omega)
    rw [PySem.W.krv_pick]
    refine ⟨.ref _, _, I5.laid (t' := s4.toks) (o := .lst xs.reverse) (fun b ob q => Heap.get?_push_of_some _ q) (Nat.le_refl _) ?_, rfl, q _ (I5.hok.fresh (Nat.le_refl _))⟩
    exact ⟨by rw [List.length_reverse]; exact hz, _, 0, r.reverse, Heap.get?_push_size _ rfl⟩
  · cases r1
    obtain ⟨its, r, ht, hz⟩ := I5.tuple hx
    have hlen := r.length
    show wpAny (model X.prog X.w) X.A (subscriptTail e (.Slice none none (some (.UnaryOp .USub (.Constant (.int 1) k p1) p2)) p3) (.ref a) (.ref s4.heap.objs.size)) (EP X pins σ Q) X.xe { s4 with heap := s4.heap.push { cls := .type "slice", data := .fields #[vl, vu, vs] } }
    refine tail_any (ops := [.ref a, .ref s4.heap.objs.size]) ht.typeIs (PyProof.Rows.slot_tuple_getitem.lookup) ?_ (by with_unfolding_all rfl)
    refine getItem_tuple_rev ht (Heap.IsSliceOf.new _ vl vu vs) pl pu ps ?_ (by rw [List.size_toArray]; omega)
    refine ⟨.ref _, _, I5.laid (t' := s4.toks) (o := .tup xs.reverse) (fun b ob q => Heap.get?_push_of_some _ q) (Nat.le_refl _) ?_, rfl, q _ (I5.hok.fresh (Nat.le_refl _))⟩
    exact ⟨by rw [List.length_reverse]; exact hz, _, r.reverse, IsTup.new _ _⟩
  · obtain ⟨t, rfl⟩ := r1
    cases pl
    cases pu
    cases ps with
    | int _ tk =>
      show wpAny (model X.prog X.w) X.A (subscriptTail e (.Slice none none (some (.UnaryOp .USub (.Constant (.int 1) k p1) p2)) p3) (.str y t) (.ref s4.heap.objs.size)) (EP X pins σ Q) X.xe { s4 with heap := s4.heap.push { cls := .type "slice", data := .fields #[.none, .none, .int (-1) tk] } }
      refine tail_any (T := "str") (ops := [.str y t, .ref s4.heap.objs.size]) (typeIs_str _ y t) (PySem.F.slot_str_getitem.lookup) ?_ (by with_unfolding_all rfl)
      refine wpAny_getItem_str_slice (l := none) (u := none) (st := some (-1, tk)) ⟨_, Heap.get?_push_size _ rfl, rfl, rfl⟩ rfl ?_
      rw [made_rev]
      refine ⟨?_, .str _, H4, I5.kept (t' := s4.toks + 1) fun b ob q => q, ⟨_, rfl⟩, q⟩
      show (⟨y.cps.toList.reverse.toArray⟩ : Str).cps.size ≤ sizeLine
      rw [List.size_toArray, List.length_reverse, Array.length_toList]
      exact hy
end
end RT
namespace SS
section
variable {prog : Program} {w : World} {A : Around} {E : Value → Shared → Prop} {s : Shared}
theorem setItem_list_cut {l sl b : Addr} {items new : Array Value} {vl vu : Value} {lo hi : Option Int} {Q : Unit → Shared → Prop} (hl : s.heap.IsList l items) (hb : s.heap.IsList b new) (hlb : l ≠ b)
    (hs : s.heap.IsSliceOf sl vl vu .none) (pl : IsPart vl lo) (pu : IsPart vu hi) (hsz : items.size + new.size ≤ sizeLine)
    (hQ : Q () { s with heap := s.heap.update l (Obj.mapSeq (fun xs => xs.extract 0 (HT.sIx items.size 0 lo) ++ new ++ xs.extract (max (HT.sIx items.size 0 lo) (HT.sIx items.size items.size hi)) xs.size)) }) :
    wpAny (model prog w) A (setItem (.ref l) (.ref sl) (.ref b)) Q E s := by
  obtain ⟨o, ho, hc, ne, hd⟩ := id hl
  obtain ⟨ob, hob, hcb, neb, hdb⟩ := id hb
  obtain ⟨os, hos, hcs, hds⟩ := id hs
  have hTs : s.TypeIs (.ref sl) "slice" := ⟨os, hos, hcs⟩
  obtain ⟨e1, e2, e3⟩ := L2.slice_bounds lo hi items.size
  unfold setItem
  try with_reducible refine wpAny_holding ?_
  first | refine wpAny_bind (wpAny_pure ?_) | skip
  refine wpAny_bind (wpAny_sequenceKey hl.typeIs (by decide) ?_)
  refine wpAny_bind (wpAny_callSpecial?_slot (name := Str.ofString "__setitem__") hl.typeIs slot_list_setitem
    (wpAny_call_entry slot_list_setitem hl.typeIs entry_list_setitem ?_ (args_list_setitem _ _ _)))
  show wpAny _ _ (Builtin.List.listSubscript? (.ref sl) >>= _) _ _ s
  refine wpAny_bind ?_
  unfold Builtin.List.listSubscript?
  refine wpAny_bind (wpAny_specialOf hTs slice_no_index ?_)
  simp only [Option.isNone_none, if_true]
  refine wpAny_pure ?_
  show wpAny _ _ (typeOf (.ref sl) >>= _) _ _ s
  refine wpAny_bind (wpAny_typeOf hTs ?_)
  rw [if_neg (by decide)]
  rw [listSliceParts_eq]
  refine wpAny_bind (wpAny_bind (wpAny_field hos hds (x := .none) rfl (wpAny_bind (wpAny_listPart .none ?_))))
  rw [if_neg (show ¬ ((rawPart none == rawInt 0) = true) from Bool.false_ne_true)]
  refine wpAny_bind (wpAny_field hos hds (x := vl) rfl (wpAny_bind (wpAny_listPart pl ?_)))
  refine wpAny_bind (wpAny_field hos hds (x := vu) rfl (wpAny_bind (wpAny_listPart pu (wpAny_pure ?_))))
  have hij : sliceBounds lo hi none items.size = (((HT.sIx items.size 0 lo : Nat) : Int), ((HT.sIx items.size items.size hi : Nat) : Int), 1) := by
    rw [← e1, ← e2, ← e3]
  have hi1 : HT.sIx items.size 0 lo ≤ items.size := HT.sIx_le _ _ (Nat.zero_le _) lo
  generalize HT.sIx items.size 0 lo = i at hij hQ hi1
  generalize HT.sIx items.size items.size hi = j at hij hQ
  have hne : ¬ (Builtin.List.listSameRef (Value.ref l) (Value.ref b) = true) := by
    show ¬ ((l == b) = true)
    simpa using hlb
  rw [if_neg hne]
  refine wpAny_bind (m := Builtin.List.listAllItems (.ref b) _) ?_
  unfold Builtin.List.listAllItems
  refine wpAny_bind (wpAny_typeOf hb.typeIs ?_)
  rw [if_pos (by decide)]
  refine wpAny_bind (wpAny_seqItems hob hdb (wpAny_pure ?_))
  refine wpAny_bind (m := Builtin.List.listItems (.ref l)) (wpAny_listItems ho hd ?_)
  refine wpAny_bind (wpAny_of_eq (sliceIndices_raw lo hi none items.size (by simp)) ?_)
  rw [hij]
  have e1 : ((i : Nat) : Int).toNat = i := by simp
  have e2 : (max ((i : Nat) : Int) ((j : Nat) : Int)).toNat = max i j := by omega
  have hlong : ¬ (Builtin.List.listTooLong (items.size + new.size) = true) := by
    show ¬ (decide (items.size + new.size > sizeLine) = true)
    simp
    omega
  show wpAny _ _ (if ((1 : Int) == 1) = true then _ else _) _ _ s
  rw [if_pos (by decide)]
  refine wpAny_bind (wpAny_rule ?_)
  rw [if_neg hlong]
  simp only [e1, e2]
  refine wpAny_bind (listUpdate_at ho hd ?_ (by omega) (by simp only [Array.size_append, Array.size_extract]; omega))
  refine wpAny_bind (wpAny_letGo ?_)
  first
    | exact wpAny_bind (wpAny_pure (wpAny_pure ⟨.none, rfl, wpAny_pure hQ⟩))
    | exact wpAny_pure ⟨.none, rfl, wpAny_pure hQ⟩
end
theorem mapSeq_cut (its new : List Value) (n i j : Nat) : ∃ n', Obj.mapSeq (fun xs => xs.extract 0 i ++ new.toArray ++ xs.extract (max i j) xs.size) { cls := .type "list", data := .seq its.toArray n } = { cls := .type "list", data := .seq (its.take i ++ new ++ its.drop (max i j)).toArray n' } := by
  have e : its.toArray.extract 0 i ++ new.toArray ++ its.toArray.extract (max i j) its.toArray.size = (its.take i ++ new ++ its.drop (max i j)).toArray := by
    simp only [List.extract_toArray, List.append_toArray, List.size_toArray, List.extract_eq_take_drop, List.drop_zero, Nat.sub_zero]
    congr 2
    exact List.take_of_length_le (by simp)
  unfold Obj.mapSeq
  simp only [e]
  exact ⟨_, rfl⟩
section
variable {X : Cx} {pos p2 : Pos}
def gSsl (K : PySem.W.Frag) (to : TE) (tl th : TO) : TG := fun v σ H Q => to σ H fun x H1 => tl σ H1 fun l H2 => th σ H2 fun u H3 => ∃ a xs b ys, x = .ref a ∧ H3 a = some (.lst xs) ∧ v = .ref b ∧ H3 b = some (.lst ys) ∧ a ≠ b ∧ xs.length + ys.length ≤ sizeLine ∧
  Q σ (upd H3 a (.lst (xs.take (HT.sIx xs.length 0 l) ++ ys ++ xs.drop (max (HT.sIx xs.length 0 l) (HT.sIx xs.length xs.length u)))))
theorem pg_ssl {o : Expr} {lo hi : Option Expr} {to : TE} {tl th : TO} (ho : PE X o to) (hl : PO X lo tl) (hh : PO X hi th)
    (ha : ∀ v, assign (.Subscript o (.Slice lo hi none p2) pos) X.env v = (do
      let ov ← holding [v] (eval o X.env)
      let iv ← holding [v, ov] (eval (.Slice lo hi none p2) X.env)
      standAt pos
      holding [v, ov, iv] (setItem ov iv v)
      release [iv, v, ov] []) := by intro _; rfl) : PG X (.Subscript o (.Slice lo hi none p2) pos) (gSsl X.K to tl th) := by
  refine ⟨fun pins s σ H v u Q I r h => ?_⟩
  rw [ha]
  refine wpAny_bind (wpAny_holding (thn (ho.run pins s σ H _ I h) fun ov s1 ⟨x, H1, I1, r1, q1⟩ => ?_))
  refine wpAny_bind (wpAny_holding (wpAny_Slice (thn (hl.run pins s1 σ H1 _ I1 q1) fun vl s2 ⟨l, H2, I2, pl, q2⟩ => thn (hh.run pins s2 σ H2 _ I2 q2) fun vu s3 ⟨uu, H3, I3, pu, q3⟩ => ?_)))
  rw [evalPart_none]
  refine wpAny_pure ?_
  have I4 : Inv X pins σ H3 { s3 with heap := s3.heap.push { cls := .type "slice", data := .fields #[vl, vu, .none] } } := I3.kept (t' := s3.toks) fun b ob q => Heap.get?_push_of_some _ q
  refine wpAny_bind (wpAny_standAt (wpAny_bind (wpAny_holding ?_)))
  obtain ⟨a, xs, b, ys, rfl, hx, rfl, hy, hab, hz, q⟩ := q3
  cases r1
  cases r
  obtain ⟨its, n, rx, hox, zx⟩ := I4.lst hx
  obtain ⟨jts, n2, ry, hoy, zy⟩ := I4.lst hy
  have lx := rx.length
  have ly := ry.length
  refine setItem_list_cut (items := its.toArray) (new := jts.toArray) ⟨_, hox, rfl, _, rfl⟩ ⟨_, hoy, rfl, _, rfl⟩ hab (Heap.IsSliceOf.new ..) pl pu (by simp only [List.size_toArray]; omega) ?_
  have e : its.toArray.size = xs.length := by rw [List.size_toArray]; exact lx.symm
  rw [e]
  have hi1 : HT.sIx xs.length 0 l ≤ xs.length := HT.sIx_le _ _ (Nat.zero_le _) l
  generalize HT.sIx xs.length 0 l = i at q hi1 ⊢
  generalize HT.sIx xs.length xs.length uu = j at q ⊢
  have rr : Vals (xs.take i ++ ys ++ xs.drop (max i j)) (its.take i ++ jts ++ its.drop (max i j)) := ((rx.take i).append ry).append (rx.drop (max i j))
  obtain ⟨n', hm⟩ := mapSeq_cut its jts n i j
  exact wpAny_release ⟨σ, _, I4.lstUpd hx hox hm rr (by simp only [List.length_append, List.length_take, List.length_drop]; omega) s3.toks, q⟩
end
end SS
def tG {α β : Type} (K : KW) (mg : Str → Option Value) (W : WX) (rel : Mp → Hp → α → β → Prop) (f : Env → Sto → R α) : L2.St → Hp → (β → Hp → Prop) → Prop := fun σ H Q =>
  ∃ m ρ S, RelA K mg m H S ∧ RelE K mg m H σ ρ ∧ Post K mg (fun c d H' => W c d σ H') rel m H (f ρ S) Q
abbrev relEq {α : Type} : Mp → Hp → α → α → Prop := fun _ _ a b => a = b
abbrev tD (X : Cx) (C : CallSem) (G : Nat → Option D) (W : WX) (e : Xp) : TE   := tG X.kw X.mg W (Rp X.kw X.mg) (ev C G e)
abbrev tDT (X : Cx) (C : CallSem) (G : Nat → Option D) (W : WX) (e : Xp) : TT   := tG X.kw X.mg W relEq (fun ρ S => asT (ev C G e ρ S))
abbrev tDs (X : Cx) (C : CallSem) (G : Nat → Option D) (W : WX) (e : Xp) : TA   := tG X.kw X.mg W (Rps X.kw X.mg) (evs C G e)
abbrev tDp (X : Cx) (C : CallSem) (G : Nat → Option D) (W : WX) (e : Xp) : TO   := tG X.kw X.mg W relEq (evp C G e)
def SrcOk (K : KW) (mg : Str → Option Value) (m0 : Mp) (H0 : Hp) (src : Src) (J : It) : Prop :=
  ∀ m H S i, Lt m0 m H0 H → RelA K mg m H S → (src.get i S = some none → J.stop i H) ∧
    ∀ d, src.get i S = some (some d) → J.go i H ∧ ∀ x H', J.yld i H x H' → Le m m H H' ∧ RelA K mg m H' S ∧ Rp K mg m H' d x
abbrev tDi (X : Cx) (C : CallSem) (G : Nat → Option D) (W : WX) (e : Xp) : TI   := tG X.kw X.mg W (SrcOk X.kw X.mg) (evi C G e)
def GOk (K : KW) (mg : Str → Option Value) (gn : List Str) (G : Nat → Option D) : Prop := ∀ i x d, gn[i]? = some x → G i = some d → ∃ u v, mg x = some u ∧ RelV v u ∧ ∀ m H, Rp K mg m H d v
section
variable {X : Cx} {C : CallSem} {G : Nat → Option D} {W : WX} {a b c e : Expr} {A B D' : Xp} {pos : Pos}
theorem de_var {i : Nat} (h : PE X e (tVar i)) : PE X e (tD X C G W (.var i)) := PE_imp h fun σ H Q ⟨m, ρ, S, ra, re, p⟩ => by
  obtain ⟨d, hd, p'⟩ := post_opt (show Post X.kw X.mg (fun c d H' => W c d σ H') (Rp X.kw X.mg) m H (R.opt (ρ[i]?.bind id) S) Q from p)
  cases q : ρ[i]? with
  | none => rw [q] at hd; cases hd
  | some o =>
    rw [q] at hd
    have ho : o = some d := hd
    subst ho
    obtain ⟨v, h1, h2⟩ := re.at_ i d q
    exact ⟨v, h1, p'.now ra h2⟩
theorem de_glo {x : Str} {i : Nat} {gn : List Str} (gok : GOk X.kw X.mg gn G) (hx : gn[i]? = some x) (hg : Gl X x) (hd : (x == ("__debug__" : Str)) = false := by decide) : PE X (.Name x pos) (tD X C G W (.glo i)) := by
  cases q : G i with
  | none =>
    refine PE_never fun σ H Q ⟨m, ρ, S, ra, re, p⟩ => ?_
    have p' : Post X.kw X.mg (fun c d H' => W c d σ H') (Rp X.kw X.mg) m H (R.opt (G i) S) Q := p
    rw [q] at p'
    exact p'
  | some d =>
    obtain ⟨u, v, h1, h2, h3⟩ := gok i x d hx q
    refine PE_imp (pe_glob hg h1 h2 hd) fun σ H Q ⟨m, ρ, S, ra, re, p⟩ => ?_
    have p' : Post X.kw X.mg (fun c d H' => W c d σ H') (Rp X.kw X.mg) m H (R.opt (G i) S) Q := p
    rw [q] at p'
    exact p'.now ra (h3 m H)
theorem de_non {j} : PE X (.Constant .none j pos) (tD X C G W .non) := PE_imp pe_non fun σ H Q ⟨m, ρ, S, ra, re, p⟩ => p.now ra .non
theorem de_bl {v j} : PE X (.Constant (.bool v) j pos) (tD X C G W (.bl v)) := PE_imp pe_bl fun σ H Q ⟨m, ρ, S, ra, re, p⟩ => p.now ra (.bl v)
theorem de_int {v j} : PE X (.Constant (.int v) j pos) (tD X C G W (.int v)) := PE_imp pe_int fun σ H Q ⟨m, ρ, S, ra, re, p⟩ => p.now ra (.int v)
theorem de_str {v j} : PE X (.Constant (.str v) j pos) (tD X C G W (.str v)) := PE_imp pe_str fun σ H Q ⟨m, ρ, S, ra, re, p⟩ => p.now ra (.str v)
theorem de_ty {x : Str} {t : String} {cb : Bool} (cx : Ctx cb X) (hx : x ∈ bnames) (hg : Gl X x) (hv : bootBuiltins x = some (.type t)) (hn : x ≠ "__name__" := by decide) (hd : (x == ("__debug__" : Str)) = false := by decide) :
    PE X (.Name x pos) (tD X C G W (.tyc t)) := PE_imp (pe_bltn (v := .ty t) hg (cx.nob x hx) hv rfl hn hd) fun σ H Q ⟨m, ρ, S, ra, re, p⟩ => p.now ra (.ty t)
theorem de_bin {op : Operator} (ha : PE X a (tD X C G W A)) (hb : PE X b (tD X C G W B)) : PE X (.BinOp a op b pos) (tD X C G W (.bin op A B)) :=
  PE_imp (pe_op (op_bin op) ha hb) fun σ H Q ⟨m, ρ, S, ra, re, p⟩ => ⟨m, ρ, S, ra, re, Post.imp (Post.bind p) fun x H1 ⟨m1, d, S1, l1, ra1, r1, p1⟩ =>
    ⟨m1, ρ, S1, ra1, re.mono l1, Post.imp (Post.bind p1) fun y H2 ⟨m2, d2, S2, l2, ra2, r2, p2⟩ => ⟨_, m2, S2, d, d2, ra2, r1.mono l2, r2, p2⟩⟩⟩
theorem asI_rp {K : KW} {mg : Str → Option Value} {V' : XK} {m : Mp} {H : Hp} {r : R D} {f : Int → Sto → R α} {Q : β → Hp → Prop} {rel : Mp → Hp → α → β → Prop} (h : Post K mg V' rel m H ((asI r).bind f) Q) :
    Post K mg V' (Rp K mg) m H r (fun v H1 => ∃ m1 i S1, v = .int i ∧ Le m m1 H H1 ∧ RelA K mg m1 H1 S1 ∧ Post K mg V' rel m1 H1 (f i S1) Q) := by
  cases r with
  | bad => exact h
  | exc c p S => exact h
  | ok d S =>
    cases d with
    | int i =>
      intro m' H' v l ra rp
      cases rp
      exact ⟨m', i, S, rfl, l, ra, Post.move l h⟩
    | _ => exact h.elim
theorem de_neg (ha : PE X a (tD X C G W A)) : PE X (.UnaryOp .USub a pos) (tD X C G W (.neg A)) :=
  PE_imp (pe_un un_neg ha) fun σ H Q ⟨m, ρ, S, ra, re, p⟩ => ⟨m, ρ, S, ra, re, Post.imp (asI_rp p) fun x H1 ⟨m1, i, S1, e1, l1, ra1, p1⟩ => ⟨i, e1, p1.now ra1 (.int _)⟩⟩
theorem asT_rp {K : KW} {mg : Str → Option Value} {V' : XK} {m : Mp} {H : Hp} {r : R D} {Q : Bool → Hp → Prop} (h : Post K mg V' relEq m H (asT r) Q) :
    Post K mg V' (Rp K mg) m H r (fun v H1 => ∃ k, TruV K v H1 k ∧ Q k H1) := by
  cases r with
  | bad => exact h
  | exc c p S => exact h
  | ok d S =>
    intro m' H' v l ra rp
    obtain ⟨k, hk, p⟩ := post_opt (show Post K mg V' relEq m H (R.opt (truth d S) S) Q from h)
    exact ⟨k, tru_v ra rp hk, p m' H' k l ra rfl⟩
theorem asT_bind {K : KW} {mg : Str → Option Value} {V' : XK} {m : Mp} {H : Hp} {r : R D} {f : Bool → Sto → R α} {Q : β → Hp → Prop} {rel : Mp → Hp → α → β → Prop} (h : Post K mg V' rel m H ((asT r).bind f) Q) :
    Post K mg V' (Rp K mg) m H r (fun v H1 => ∃ m1 k S1, TruV K v H1 k ∧ Le m m1 H H1 ∧ RelA K mg m1 H1 S1 ∧ Post K mg V' rel m1 H1 (f k S1) Q) := by
  cases r with
  | bad => exact h
  | exc c p S => exact h
  | ok d S =>
    intro m' H' v l ra rp
    cases ht : truth d S with
    | none =>
      have h' : Post K mg V' rel m H ((R.opt (truth d S) S).bind f) Q := h
      rw [ht] at h'
      exact h'.elim
    | some k =>
      have h' : Post K mg V' rel m H ((R.opt (truth d S) S).bind f) Q := h
      rw [ht] at h'
      exact ⟨m', k, S, tru_v ra rp ht, l, ra, Post.move l h'⟩
theorem de_nt (ha : PE X a (tD X C G W A)) : PE X (.UnaryOp .Not a pos) (tD X C G W (.nt A)) :=
  PE_imp (pe_notT ha) fun σ H Q ⟨m, ρ, S, ra, re, p⟩ => ⟨m, ρ, S, ra, re, Post.imp (asT_bind p) fun x H1 ⟨m1, k, S1, e1, l1, ra1, p1⟩ => ⟨k, e1, p1.now ra1 (.bl _)⟩⟩
theorem de_and {rest : List Expr} (ha : PE X a (tD X C G W A)) (hb : PE X (.BoolOp .And (b :: rest) pos) (tD X C G W B)) : PE X (.BoolOp .And (a :: b :: rest) pos) (tD X C G W (.and A B)) :=
  PE_imp (pe_andT ha hb) fun σ H Q ⟨m, ρ, S, ra, re, p⟩ => ⟨m, ρ, S, ra, re, Post.imp (Post.bind p) fun x H1 ⟨m1, d, S1, l1, ra1, r1, p1⟩ => by
    cases ht : truth d S1 with
    | none => simp only [ht] at p1; exact p1.elim
    | some k =>
      refine ⟨k, tru_v ra1 r1 ht, ?_⟩
      cases k with
      | true => simp only [ht] at p1; exact ⟨m1, ρ, S1, ra1, re.mono l1, p1⟩
      | false => simp only [ht] at p1; exact p1.now ra1 r1⟩
theorem de_cmp {op : CmpOp} {cb : Bool} (cx : Ctx cb X) (ha : PE X a (tD X C G W A)) (hb : PE X b (tD X C G W B)) (hm : behindInMarks op b = false := by rfl) : PE X (.Compare a [op] [b] pos) (tD X C G W (.cmp op A B)) :=
  PE_imp (pe_cmpR (op_cmp cx op) ha hb hm) fun σ H Q ⟨m, ρ, S, ra, re, p⟩ => ⟨m, ρ, S, ra, re, Post.imp (Post.bind p) fun x H1 ⟨m1, d, S1, l1, ra1, r1, p1⟩ =>
    ⟨m1, ρ, S1, ra1, re.mono l1, Post.imp (Post.bind p1) fun y H2 ⟨m2, d2, S2, l2, ra2, r2, p2⟩ => by
      obtain ⟨z, hz, p3⟩ := post_opt p2
      cases hc : cmpD op d d2 S2 with
      | none => rw [hc] at hz; cases hz
      | some k =>
        rw [hc] at hz
        cases hz
        exact ⟨m2, S2, d, d2, k, ra2, r1.mono l2, r2, hc, p3.now ra2 (.bl _)⟩⟩⟩
theorem i_cmp2 {op op' : CmpOp} {σ : L2.St} {H : Hp} {Q : VK} (h : tD X C G W (.cmp2 op op' A B D') σ H Q) :
    tChain (rC X.kw X.mg (cmpD op)) (rC X.kw X.mg (cmpD op')) (tD X C G W A) (tD X C G W B) (tD X C G W D') σ H Q := by
  obtain ⟨m, ρ, S, ra, re, p⟩ := h
  refine ⟨m, ρ, S, ra, re, Post.imp (Post.bind p) fun x H1 ⟨m1, d, S1, l1, ra1, r1, p1⟩ => ?_⟩
  refine ⟨m1, ρ, S1, ra1, re.mono l1, Post.imp (Post.bind p1) fun y H2 ⟨m2, d2, S2, l2, ra2, r2, p2⟩ => ?_⟩
  cases hq : cmpD op d d2 S2 with
  | none => simp only [hq] at p2; exact p2.elim
  | some k =>
    refine ⟨m2, S2, d, d2, k, ra2, r1.mono l2, r2, hq, k, rfl, ?_⟩
    cases k with
    | false => simp only [hq] at p2; exact p2.now ra2 (.bl _)
    | true =>
      simp only [hq] at p2
      refine ⟨m2, ρ, S2, ra2, (re.mono l1).mono l2, Post.imp (Post.bind p2) fun z H3 ⟨m3, d3, S3, l3, ra3, r3, p3⟩ => ?_⟩
      obtain ⟨z', hz, p4⟩ := post_opt p3
      cases hc' : cmpD op' d2 d3 S3 with
      | none => rw [hc'] at hz; cases hz
      | some k' =>
        rw [hc'] at hz
        cases hz
        exact ⟨m3, S3, d2, d3, k', ra3, r2.mono l3, r3, hc', p4.now ra3 (.bl _)⟩
theorem bl_cmp2 {op op' : CmpOp} {ρ : Env} {S S' : Sto} {d : D} (h : ev C G (.cmp2 op op' A B D') ρ S = .ok d S') : ∃ k, d = .bl k := by
  have h' : ((ev C G A ρ S).bind fun x S1 => (ev C G B ρ S1).bind fun y S2 => match cmpD op x y S2 with
    | some true => (ev C G D' ρ S2).bind fun z S3 => R.opt ((cmpD op' y z S3).map D.bl) S3
    | some false => .ok (.bl false) S2
    | none => .bad) = .ok d S' := h
  cases e1 : ev C G A ρ S with
  | bad => rw [e1] at h'; cases h'
  | exc _ _ _ => rw [e1] at h'; cases h'
  | ok x S1 =>
    rw [e1] at h'
    simp only [R.bind_ok] at h'
    cases e2 : ev C G B ρ S1 with
    | bad => rw [e2] at h'; cases h'
    | exc _ _ _ => rw [e2] at h'; cases h'
    | ok y S2 =>
      rw [e2] at h'
      simp only [R.bind_ok] at h'
      split at h'
      · cases e3 : ev C G D' ρ S2 with
        | bad => rw [e3] at h'; cases h'
        | exc _ _ _ => rw [e3] at h'; cases h'
        | ok z S3 =>
          rw [e3] at h'
          simp only [R.bind_ok] at h'
          cases e4 : cmpD op' y z S3 with
          | none => rw [e4] at h'; cases h'
          | some k => rw [e4] at h'; cases h'; exact ⟨k, rfl⟩
      · cases h'
        exact ⟨false, rfl⟩
      · cases h'
theorem dt_tru (ha : PE X a (tD X C G W A)) (he : ∀ whole, isTrue a X.env whole = (do let v ← whole; standAt a.pos; holding [v] (truthy v)) := by intro _; rfl) : PT X a (tDT X C G W A) :=
  PT_imp (pt_truth ha he) fun σ H Q ⟨m, ρ, S, ra, re, p⟩ => ⟨m, ρ, S, ra, re, asT_rp p⟩
theorem asT_nt (r : R D) : asT ((asT r).bind fun b S1 => .ok (.bl (!b)) S1) = (asT r).bind fun b S1 => .ok (!b) S1 := by
  cases asT r <;> rfl
theorem dt_nt (ha : PT X a (tDT X C G W A)) : PT X (.UnaryOp .Not a pos) (tDT X C G W (.nt A)) :=
  PT_imp (pt_not ha) fun σ H Q ⟨m, ρ, S, ra, re, p⟩ => by
    have p' : Post X.kw X.mg (fun c d H' => W c d σ H') relEq m H (asT ((asT (ev C G A ρ S)).bind fun b S1 => .ok (.bl (!b)) S1)) Q := p
    rw [asT_nt] at p'
    exact ⟨m, ρ, S, ra, re, Post.imp (Post.bind (rel1 := relEq) p') fun k H1 ⟨m1, d, S1, l1, ra1, r1, p1⟩ => by
      have r1' : d = k := r1
      subst r1'
      exact p1.now ra1 rfl⟩
theorem asT_and {r : R D} {f : Sto → R D} : asT (r.bind fun x S1 => match truth x S1 with
    | some true => f S1
    | some false => .ok x S1
    | none => .bad) = (asT r).bind fun b S1 => if b then asT (f S1) else .ok false S1 := by
  cases r with
  | bad => rfl
  | exc c p S => rfl
  | ok x S =>
    show asT (match truth x S with | some true => f S | some false => .ok x S | none => .bad) = (R.opt (truth x S) S).bind fun b S1 => if b then asT (f S1) else .ok false S1
    cases h : truth x S with
    | none => rfl
    | some k =>
      cases k with
      | true => rfl
      | false =>
        show R.opt (truth x S) S = _
        rw [h]
        rfl
theorem asT_or {r : R D} {f : Sto → R D} : asT (r.bind fun x S1 => match truth x S1 with
    | some true => .ok x S1
    | some false => f S1
    | none => .bad) = (asT r).bind fun b S1 => if b then .ok true S1 else asT (f S1) := by
  cases r with
  | bad => rfl
  | exc c p S => rfl
  | ok x S =>
    show asT (match truth x S with | some true => .ok x S | some false => f S | none => .bad) = (R.opt (truth x S) S).bind fun b S1 => if b then .ok true S1 else asT (f S1)
    cases h : truth x S with
    | none => rfl
    | some k =>
      cases k with
      | false => rfl
      | true =>
        show R.opt (truth x S) S = _
        rw [h]
        rfl
theorem dw_one_and (ha : PT X a (tDT X C G W A)) : PW X (.BoolOp .And [a] pos) (tDT X C G W A) := pw_and1 ha
theorem dw_one_or (ha : PT X a (tDT X C G W A)) : PW X (.BoolOp .Or [a] pos) (tDT X C G W A) := pw_or1 ha
theorem dw_and {rest : List Expr} (ha : PT X a (tDT X C G W A)) (hb : PW X (.BoolOp .And (b :: rest) pos) (tDT X C G W B)) : PW X (.BoolOp .And (a :: b :: rest) pos) (tDT X C G W (.and A B)) :=
  PW_imp (pw_and ha hb) fun σ H Q ⟨m, ρ, S, ra, re, p⟩ => by
    have p' : Post X.kw X.mg (fun c d H' => W c d σ H') relEq m H (asT ((ev C G A ρ S).bind fun x S1 => match truth x S1 with
      | some true => ev C G B ρ S1
      | some false => .ok x S1
      | none => .bad)) Q := p
    rw [asT_and] at p'
    exact ⟨m, ρ, S, ra, re, Post.imp (Post.bind (rel1 := relEq) p') fun k H1 ⟨m1, d, S1, l1, ra1, r1, p1⟩ => by
      have r1' : d = k := r1
      subst r1'
      cases d with
      | true => exact ⟨m1, ρ, S1, ra1, re.mono l1, p1⟩
      | false => exact p1.now ra1 rfl⟩
theorem dw_or {rest : List Expr} (ha : PT X a (tDT X C G W A)) (hb : PW X (.BoolOp .Or (b :: rest) pos) (tDT X C G W B)) : PW X (.BoolOp .Or (a :: b :: rest) pos) (tDT X C G W (.or A B)) :=
  PW_imp (pw_or ha hb) fun σ H Q ⟨m, ρ, S, ra, re, p⟩ => by
    have p' : Post X.kw X.mg (fun c d H' => W c d σ H') relEq m H (asT ((ev C G A ρ S).bind fun x S1 => match truth x S1 with
      | some true => .ok x S1
      | some false => ev C G B ρ S1
      | none => .bad)) Q := p
    rw [asT_or] at p'
    exact ⟨m, ρ, S, ra, re, Post.imp (Post.bind (rel1 := relEq) p') fun k H1 ⟨m1, d, S1, l1, ra1, r1, p1⟩ => by
      have r1' : d = k := r1
      subst r1'
      cases d with
      | false => exact ⟨m1, ρ, S1, ra1, re.mono l1, p1⟩
      | true => exact p1.now ra1 rfl⟩
theorem asT_bl {K : KW} {mg : Str → Option Value} {V' : XK} {m : Mp} {H : Hp} {r : R D} {Q : Bool → Hp → Prop} (h : Post K mg V' relEq m H (asT r) Q) (hb : ∀ d S, r = .ok d S → ∃ k, d = .bl k) :
    Post K mg V' (Rp K mg) m H r (fun v H1 => ∃ k, v = .bl k ∧ Q k H1) := by
  cases r with
  | bad => exact h
  | exc c p S => exact h
  | ok d S =>
    obtain ⟨k, rfl⟩ := hb d S rfl
    intro m' H' v l ra rp
    cases rp
    exact ⟨k, rfl, h m' H' k l ra rfl⟩
theorem dt_cmp2 {op op' : CmpOp} {cb : Bool} (cx : Ctx cb X) (ha : PE X a (tD X C G W A)) (hb : PE X b (tD X C G W B)) (hc : PE X c (tD X C G W D')) (hm : lastMarks [op, op'] [b, c] = false := by with_unfolding_all rfl) :
    PT X (.Compare a [op, op'] [b, c] pos) (tDT X C G W (.cmp2 op op' A B D')) :=
  PT_imp (pt_chain (op_cmp cx op) (op_cmp cx op') ha hb hc hm) fun σ H Q ⟨m, ρ, S, ra, re, p⟩ => i_cmp2 ⟨m, ρ, S, ra, re, asT_bl p fun d S' h => bl_cmp2 h⟩
theorem dt_cmp {op : CmpOp} {cb : Bool} (cx : Ctx cb X) (ha : PE X a (tD X C G W A)) (hb : PE X b (tD X C G W B)) (hm : behindInMarks op b = false := by rfl) : PT X (.Compare a [op] [b] pos) (tDT X C G W (.cmp op A B)) :=
  PT_imp (pt_cmpR (op_cmp cx op) ha hb hm) fun σ H Q ⟨m, ρ, S, ra, re, p⟩ => ⟨m, ρ, S, ra, re, by
    have p0 : Post X.kw X.mg (fun c d H' => W c d σ H') relEq m H (((ev C G A ρ S).bind fun x S1 => (ev C G B ρ S1).bind fun y S2 => R.opt ((cmpD op x y S2).map D.bl) S2).bind fun x S => R.opt (truth x S) S) Q := p
    have assoc : (((ev C G A ρ S).bind fun x S1 => (ev C G B ρ S1).bind fun y S2 => R.opt ((cmpD op x y S2).map D.bl) S2).bind fun x S => R.opt (truth x S) S) =
        (ev C G A ρ S).bind fun x S1 => (ev C G B ρ S1).bind fun y S2 => R.opt (cmpD op x y S2) S2 := by
      cases ev C G A ρ S with
      | bad => rfl
      | exc c p S => rfl
      | ok x S1 =>
        show ((ev C G B ρ S1).bind fun y S2 => R.opt ((cmpD op x y S2).map D.bl) S2).bind (fun x S => R.opt (truth x S) S) = (ev C G B ρ S1).bind fun y S2 => R.opt (cmpD op x y S2) S2
        cases ev C G B ρ S1 with
        | bad => rfl
        | exc c p S => rfl
        | ok y S2 =>
          show (R.opt ((cmpD op x y S2).map D.bl) S2).bind (fun x S => R.opt (truth x S) S) = R.opt (cmpD op x y S2) S2
          cases cmpD op x y S2 <;> rfl
    rw [assoc] at p0
    exact Post.imp (Post.bind p0) fun x H1 ⟨m1, d, S1, l1, ra1, r1, p1⟩ => ⟨m1, ρ, S1, ra1, re.mono l1, Post.imp (Post.bind p1) fun y H2 ⟨m2, d2, S2, l2, ra2, r2, p2⟩ => by
      obtain ⟨k, hk, p3⟩ := post_opt p2
      exact ⟨m2, S2, d, d2, k, ra2, r1.mono l2, r2, hk, k, rfl, p3.now ra2 rfl⟩⟩⟩
theorem de_ife (hc : PT X c (tDT X C G W D')) (ha : PE X a (tD X C G W A)) (hb : PE X b (tD X C G W B)) : PE X (.IfExp c a b pos) (tD X C G W (.ife D' A B)) :=
  PE_imp (pe_ifExp hc ha hb) fun σ H Q ⟨m, ρ, S, ra, re, p⟩ => ⟨m, ρ, S, ra, re, Post.imp (Post.bind (rel1 := relEq) p) fun k H1 ⟨m1, d, S1, l1, ra1, r1, p1⟩ => by
    have r1' : d = k := r1
    subst r1'
    cases d with
    | true => exact ⟨m1, ρ, S1, ra1, re.mono l1, p1⟩
    | false => exact ⟨m1, ρ, S1, ra1, re.mono l1, p1⟩⟩
theorem da_nil : PA X [] (tDs X C G W .nil) := PA_imp pa_nil fun σ H Q ⟨m, ρ, S, ra, re, p⟩ => p.now ra .nil
theorem da_cons {es : List Expr} (ha : PE X e (tD X C G W A)) (hr : PA X es (tDs X C G W B)) (hs : starEach (e :: es) X.env = (false, eval e X.env) :: starEach es X.env := by rfl) : PA X (e :: es) (tDs X C G W (.cons A B)) :=
  PA_imp (pa_cons ha hr hs) fun σ H Q ⟨m, ρ, S, ra, re, p⟩ => ⟨m, ρ, S, ra, re, Post.imp (Post.bind p) fun x H1 ⟨m1, d, S1, l1, ra1, r1, p1⟩ =>
    ⟨m1, ρ, S1, ra1, re.mono l1, Post.imp (Post.bind p1) fun xs H2 ⟨m2, ds, S2, l2, ra2, r2, p2⟩ => p2.now ra2 (.cons (r1.mono l2) r2)⟩⟩
theorem dk_nil : PK X [] (tDs X C G W .nil) := PK_imp pk_nil fun σ H Q ⟨m, ρ, S, ra, re, p⟩ => p.now ra .nil
theorem dk_cons {es : List Keyword} {nm : Option Str} {kpos : Pos} (ha : PE X e (tD X C G W A)) (hr : PK X es (tDs X C G W B)) : PK X (⟨nm, e, kpos⟩ :: es) (tDs X C G W (.cons A B)) :=
  PK_imp (pk_cons ha hr) fun σ H Q ⟨m, ρ, S, ra, re, p⟩ => ⟨m, ρ, S, ra, re, Post.imp (Post.bind p) fun x H1 ⟨m1, d, S1, l1, ra1, r1, p1⟩ =>
    ⟨m1, ρ, S1, ra1, re.mono l1, Post.imp (Post.bind p1) fun xs H2 ⟨m2, ds, S2, l2, ra2, r2, p2⟩ => p2.now ra2 (.cons (r1.mono l2) r2)⟩⟩
theorem dp_none : PO X none (tDp X C G W .nil) := PO_imp po_none fun σ H Q ⟨m, ρ, S, ra, re, p⟩ => p.now ra rfl
theorem dp_some (ha : PE X e (tD X C G W A)) : PO X (some e) (tDp X C G W (.cons A .nil)) :=
  PO_imp (po_some ha) fun σ H Q ⟨m, ρ, S, ra, re, p⟩ => ⟨m, ρ, S, ra, re, Post.imp (asI_rp p) fun x H1 ⟨m1, i, S1, e1, l1, ra1, p1⟩ => ⟨i, e1, p1.now ra1 rfl⟩⟩
theorem de_ix {cb : Bool} (cx : Ctx cb X) (ha : PE X a (tD X C G W A)) (hb : PE X b (tD X C G W B)) (hs : PlainIx b := by exact fun _ _ => rfl) : PE X (.Subscript a b pos) (tD X C G W (.ix A B)) :=
  PE_imp (pe_ix (ix_any cx) ha hb hs) fun σ H Q ⟨m, ρ, S, ra, re, p⟩ => ⟨m, ρ, S, ra, re, Post.imp (Post.bind p) fun x H1 ⟨m1, d, S1, l1, ra1, r1, p1⟩ =>
    ⟨m1, ρ, S1, ra1, re.mono l1, Post.imp (Post.bind p1) fun y H2 ⟨m2, d2, S2, l2, ra2, r2, p2⟩ => by
      obtain ⟨z, hz, p3⟩ := post_opt p2
      exact ⟨m2, S2, d, d2, z, ra2, r1.mono l2, r2, hz, fun v rv => p3.now ra2 rv⟩⟩⟩
theorem de_sl {lo hi : Option Expr} {p2 : Pos} (ha : PE X a (tD X C G W A)) (hl : PO X lo (tDp X C G W B)) (hh : PO X hi (tDp X C G W D')) : PE X (.Subscript a (.Slice lo hi none p2) pos) (tD X C G W (.sl A B D')) :=
  PE_imp (pe_slice sl_any ha hl hh) fun σ H Q ⟨m, ρ, S, ra, re, p⟩ => ⟨m, ρ, S, ra, re, Post.imp (Post.bind p) fun x H1 ⟨m1, d, S1, l1, ra1, r1, p1⟩ =>
    ⟨m1, ρ, S1, ra1, re.mono l1, Post.imp (Post.bind (rel1 := relEq) p1) fun o H2 ⟨m2, o', S2, l2, ra2, r2, p2⟩ => by
      have r2' : o' = o := r2
      subst r2'
      exact ⟨m2, ρ, S2, ra2, (re.mono l1).mono l2, Post.imp (Post.bind (rel1 := relEq) p2) fun u H3 ⟨m3, u', S3, l3, ra3, r3, p3⟩ => by
        have r3' : u' = u := r3
        subst r3'
        exact ⟨_, m3, S3, d, ra3, (r1.mono l2).mono l3, p3⟩⟩⟩⟩
theorem de_rev {k : Nat} {p1 p2 p3 : Pos} (ha : PE X a (tD X C G W A)) : PE X (.Subscript a (.Slice none none (some (.UnaryOp .USub (.Constant (.int 1) k p1) p2)) p3) pos) (tD X C G W (.rev A)) :=
  PE_imp (RT.pe_revS ha) fun σ H Q ⟨m, ρ, S, ra, re, p⟩ => ⟨m, ρ, S, ra, re, Post.imp (Post.bind p) fun x H1 ⟨m1, d, S1, l1, ra1, r1, p1⟩ => by
    cases r1 with
    | fl t hs =>
      simp only [revD] at p1
      exact .inl ⟨_, _, rfl, .inl (.inr ⟨_, t⟩), post_mk ra1 hs.reverse p1⟩
    | @loc n q _ t =>
      cases hl : lstAt S1 n with
      | none => simp only [revD, hl] at p1; exact p1.elim
      | some ds =>
        simp only [revD, hl] at p1
        obtain ⟨vs, h1, h2⟩ := ra1.seq t hl
        exact .inl ⟨q, vs, rfl, h1, post_mk ra1 h2.reverse p1⟩
    | tup h hs => exact .inr (.inl ⟨_, _, rfl, h.t, post_tup ra1 hs.reverse p1⟩)
    | str x =>
      by_cases cl : x.length ≤ sizeLine
      · simp only [revD, if_pos cl] at p1
        exact .inr (.inr ⟨x, rfl, cl, p1.now ra1 (.str _)⟩)
      · simp only [revD, if_neg cl] at p1
        exact p1.elim
    | _ => exact p1.elim⟩
theorem le1000 {n : Nat} (h : n ≤ 1000) : n ≤ sizeLine := Nat.le_trans h (by decide)
theorem de_tup {es : List Expr} {k : Nat} (h : PA X es (tDs X C G W A)) : PE X (.Tuple es k pos) (tD X C G W (.tup A)) :=
  PE_imp (pe_tup h) fun σ H Q ⟨m, ρ, S, ra, re, p⟩ => ⟨m, ρ, S, ra, re, Post.imp (Post.bind p) fun xs H1 ⟨m1, ds, S1, l1, ra1, r1, p1⟩ => by
    by_cases c : ds.length ≤ 1000
    · rw [if_pos c] at p1
      exact ⟨by rw [r1.length]; exact le1000 c, post_tup ra1 r1 p1⟩
    · rw [if_neg c] at p1
      exact p1.elim⟩
theorem de_lst {es : List Expr} (h : PA X es (tDs X C G W A)) : PE X (.List es pos) (tD X C G W (.lst A)) :=
  PE_imp (pe_lst h) fun σ H Q ⟨m, ρ, S, ra, re, p⟩ => ⟨m, ρ, S, ra, re, Post.imp (Post.bind p) fun xs H1 ⟨m1, ds, S1, l1, ra1, r1, p1⟩ => by
    by_cases c : ds.length ≤ 1000
    · rw [if_pos c] at p1
      exact ⟨by rw [r1.length]; exact le1000 c, post_mk ra1 r1 p1⟩
    · rw [if_neg c] at p1
      exact p1.elim⟩
theorem de_biB {x : Str} {id : String} {bb : Bi} {es : List Expr} {p : Pos} {cb : Bool} (cx : Ctx cb X) (hx : x ∈ bnames) (hc : CallR X (.builtin id) (rBi X.kw X.mg bb)) (hg : Gl X x) (hv : bootBuiltins x = some (.builtin id)) (ha : PA X (e :: es) (tDs X C G W A))
    (hn : x ≠ "__name__" := by decide) (hdb : (x == ("__debug__" : Str)) = false := by decide) (he : starEach (e :: es) X.env = (false, eval e X.env) :: starEach es X.env := by rfl) (hpl : (backTo pos (starEach es X.env)).any (·.1) = false := by rfl) :
    PE X (.Call (.Name x p) (e :: es) [] pos) (tD X C G W (.bi bb A)) :=
  PE_imp (pe_callB hc hg (cx.nob x hx) hv ha hn hdb he hpl) fun σ H Q ⟨m, ρ, S, ra, re, p⟩ => ⟨m, ρ, S, ra, re, Post.imp (Post.bind p) fun xs H1 ⟨m1, ds, S1, l1, ra1, r1, p1⟩ => ⟨_, m1, S1, ds, ra1, r1, p1⟩⟩
theorem de_biT {x : Str} {T : String} {bb : Bi} {es : List Expr} {p : Pos} {cb : Bool} (cx : Ctx cb X) (hx : x ∈ bnames) (hc : CallR X (.type T) (rBi X.kw X.mg bb)) (hg : Gl X x) (hv : bootBuiltins x = some (.type T)) (ha : PA X (e :: es) (tDs X C G W A))
    (hn : x ≠ "__name__" := by decide) (hdb : (x == ("__debug__" : Str)) = false := by decide) (he : starEach (e :: es) X.env = (false, eval e X.env) :: starEach es X.env := by rfl) (hpl : (backTo pos (starEach es X.env)).any (·.1) = false := by rfl) :
    PE X (.Call (.Name x p) (e :: es) [] pos) (tD X C G W (.bi bb A)) :=
  PE_imp (pe_callTy hc hg (cx.nob x hx) hv ha hn hdb he hpl) fun σ H Q ⟨m, ρ, S, ra, re, p⟩ => ⟨m, ρ, S, ra, re, Post.imp (Post.bind p) fun xs H1 ⟨m1, ds, S1, l1, ra1, r1, p1⟩ => ⟨_, m1, S1, ds, ra1, r1, p1⟩⟩
theorem de_frzv (ha : PE X a (tD X C G W A)) : PE X a (tD X C G W (.frzv A)) := by
  refine ⟨fun pins s σ H Q I ⟨m, ρ, S, ra, re, p⟩ => ?_⟩
  have p0 : Post X.kw X.mg (fun c d H' => W c d σ H') (Rp X.kw X.mg) m H (trim S ((ev C G A ρ S).bind fun x S1 => frzD x S1)) Q := p
  refine thn (ha.run pins s σ H _ I ⟨m, ρ, S, ra, re, Post.bind (Post.trim ra p0)⟩) fun v s1 ⟨x, H1, I1, r1, m1, d, S1, l1, ra1, rp1, p1⟩ => ?_
  have keep : ∀ {d' : D}, Post X.kw X.mg (fun c d H' => W c d σ H') (Rp X.kw X.mg) m1 H1 (.ok d S1) Q → EP X pins σ Q v s1 := fun {d'} q => ⟨x, H1, I1, r1, q.now ra1 rp1⟩
  cases rp1 with
  | @loc n a b t =>
    have p2 : Post X.kw X.mg (fun c d H' => W c d σ H') (Rp X.kw X.mg) m1 H1 (match S1[n]? with
      | some (.lst ds) => .ok (.fl ds) (S1.set n (.frz ds))
      | some (.dic kvs) => .ok (.fd (kvs.map (·.1)) (kvs.map (·.2))) (S1.set n (.fdic kvs))
      | some (.dn kvs) => .ok (.fm (kvs.map (·.1)) (kvs.map (·.2))) (S1.set n (.fdn kvs))
      | _ => .ok (.loc n) S1) Q := p1
    cases q : S1[n]? with
    | none => rw [q] at p2; exact keep (d' := .non) p2
    | some so =>
      rw [q] at p2
      cases so with
      | lst ds =>
        obtain ⟨vs, hb, g1, g2⟩ := ra1.at_ n (a, b) _ t q
        have hb' : b = false := hb
        subst hb'
        obtain ⟨od, I2⟩ := I1.lock g1 trivial
        have l2 : Le m1 m1 H1 (upd H1 a (.frz od (.lst vs))) := Le.writeO t g1 trivial
        exact ⟨.ref a, _, I2, r1, p2 m1 _ _ l2 (ra1.writeO t g1 trivial ⟨vs, .inl ⟨rfl, od, upd_same⟩, g2.mono l2⟩) (.fl upd_same (g2.mono l2))⟩
      | dic kvs =>
        obtain ⟨ks, hb, g1, g2⟩ := ra1.at_ n (a, b) _ t q
        have hb' : b = false := hb
        subst hb'
        obtain ⟨od, I2⟩ := I1.lock g1 trivial
        have l2 : Le m1 m1 H1 (upd H1 a (.frz od (.dK ks))) := Le.writeO t g1 trivial
        exact ⟨.ref a, _, I2, r1, p2 m1 _ _ l2 (ra1.writeO t g1 trivial ⟨ks, od, rfl, upd_same, kvs_mono g2 l2⟩) (.fd upd_same g2.1 (g2.2.mono l2))⟩
      | dn kvs =>
        obtain ⟨ks, hb, g1, g2⟩ := ra1.at_ n (a, b) _ t q
        have hb' : b = false := hb
        subst hb'
        obtain ⟨od, I2⟩ := I1.lock g1 trivial
        have l2 : Le m1 m1 H1 (upd H1 a (.frz od (DnO X.w a ks))) := Le.writeO t g1 trivial
        have g3 := g2.mov l2.lt
        exact ⟨.ref a, _, I2, r1, p2 m1 _ _ l2 (ra1.writeO t g1 trivial ⟨ks, od, rfl, upd_same, g3⟩) (.fm upd_same g3.1 (by rw [g3.1]; exact g3.2.1) g3.2.2)⟩
      | _ => exact keep (d' := .non) p2
  | _ => exact keep (d' := .non) p1
def rMt (K : KW) (mg : Str → Option Value) (mm : Mt) : V → List V → Hp → VK → Prop := fun x xs H Q => ∃ W m S d es, RelA K mg m H S ∧ Rp K mg m H d x ∧ Rps K mg m H es xs ∧ Post K mg W (Rp K mg) m H (mtD mm d es S) Q
theorem mt_open {K : KW} {mg : Str → Option Value} {mm : Mt} {x : V} {xs : List V} {H : Hp} {Q : VK} (h : rMt K mg mm x xs H Q) :
    ∃ (m : Mp) (S : Sto) (a : Addr) (ds es : List D) (vs : List V) (r : D) (ys : List D), x = .ref a ∧ H a = some (.lst vs) ∧ RelA K mg m H S ∧ Rps K mg m H ds vs ∧ Rps K mg m H es xs ∧ mtL mm ds es S = some (r, ys) ∧
      ∀ ws v, Rps K mg m H ys ws → Rp K mg m H r v → Q v (upd H a (.lst ws)) := by
  obtain ⟨W, m, S, d, es, ra, rx, rs, p⟩ := h
  cases rx with
  | @loc n a b t =>
    have p1 : Post K mg W (Rp K mg) m H (match S[n]? with
      | some (.lst ds) => mtW n S (mtL mm ds es S)
      | _ => .bad) Q := p
    cases hl : S[n]? with
    | none => rw [hl] at p1; exact p1.elim
    | some so =>
      rw [hl] at p1
      cases so with
      | lst ds =>
        have p2 : Post K mg W (Rp K mg) m H (mtW n S (mtL mm ds es S)) Q := p1
        obtain ⟨vs, h1, h2⟩ := ra.lst t hl
        cases hm : mtL mm ds es S with
        | none => rw [hm] at p2; exact p2.elim
        | some q =>
          rw [hm] at p2
          refine ⟨m, S, a, ds, es, vs, q.1, q.2, rfl, h1, ra, h2, rs, hm, fun ws v r1 r2 => ?_⟩
          have l : Le m m H (upd H a (.lst ws)) := Le.write ra t hl h1
          exact p2 m _ v l (ra.write t hl h1 r1) (r2.mono l)
      | _ => exact p1.elim
  | _ => exact p.elim
theorem rps_take {K : KW} {mg : Str → Option Value} {m : Mp} {H : Hp} : ∀ {ds : List D} {vs : List V} (n : Nat), Rps K mg m H ds vs → Rps K mg m H (ds.take n) (vs.take n)
  | _, _, 0, _ => .nil
  | _, _, n + 1, .nil => .nil
  | _, _, n + 1, .cons h hs => .cons h (rps_take n hs)
theorem rps_drop {K : KW} {mg : Str → Option Value} {m : Mp} {H : Hp} : ∀ {ds : List D} {vs : List V} (n : Nat), Rps K mg m H ds vs → Rps K mg m H (ds.drop n) (vs.drop n)
  | _, _, 0, h => h
  | _, _, n + 1, .nil => .nil
  | _, _, n + 1, .cons h hs => rps_drop n hs
theorem rps_erase {K : KW} {mg : Str → Option Value} {m : Mp} {H : Hp} {ds : List D} {vs : List V} (n : Nat) (h : Rps K mg m H ds vs) : Rps K mg m H (ds.eraseIdx n) (vs.eraseIdx n) := by
  rw [List.eraseIdx_eq_take_drop_succ, List.eraseIdx_eq_take_drop_succ]
  exact (rps_take n h).append (rps_drop _ h)
structure MtI (X : Cx) (mm : Mt) (name : Str) : Prop where
  ex : ∃ id : String, Slot "list" name id ∧ typeOf (.builtin id) = pure (.type "method_descriptor") ∧ MtR X id (rMt X.kw X.mg mm)
theorem mi_append : MtI X .append "append" := ⟨_, PySem.F.slot_list_append, PySem.F.type_list_append, fun pins s σ H x xs v us Q I rx rv h => by
  obtain ⟨m, S, a, ds, es, vs, r, ys, rfl, h1, ra, r1, r2, hm, q⟩ := mt_open h
  match es, r2, hm with
  | [d], r2, hm =>
    obtain ⟨y, rfl, ry⟩ := rps1 r2
    have hm' : (if ds.length < sizeLine then some (D.non, ds ++ [d]) else none) = some (r, ys) := hm
    by_cases c : ds.length < sizeLine
    · rw [if_pos c] at hm'
      cases hm'
      exact mt_append pins s σ H _ _ v us Q I rx rv ⟨a, vs, y, rfl, rfl, h1, by rw [r1.length]; exact c, q _ _ (r1.append (.cons ry .nil)) .non⟩
    · rw [if_neg c] at hm'
      cases hm'
  | [], _, hm => cases hm
  | _ :: _ :: _, _, hm => cases hm⟩
theorem mi_popAt : MtI X .popAt "pop" := ⟨_, PySem.F.slot_list_pop, PySem.F.type_list_pop, fun pins s σ H x xs v us Q I rx rv h => by
  obtain ⟨m, S, a, ds, es, vs, r, ys, rfl, h1, ra, r1, r2, hm, q⟩ := mt_open h
  match es, r2, hm with
  | [.int i], .cons (.int _) .nil, hm =>
    have hm' : (if decide (-(2 ^ 63) ≤ i) && decide (i < 2 ^ 63) then (seqIndex? i ds.length).bind fun k => (ds[k]?).map fun y => (y, ds.eraseIdx k) else none) = some (r, ys) := hm
    by_cases c : (decide (-(2 ^ 63) ≤ i) && decide (i < 2 ^ 63)) = true
    · rw [if_pos c] at hm'
      simp only [Bool.and_eq_true, decide_eq_true_eq] at c
      cases hk : seqIndex? i ds.length with
      | none => rw [hk] at hm'; cases hm'
      | some k =>
        rw [hk] at hm'
        have hm2 : ((ds[k]?).map fun y => (y, ds.eraseIdx k)) = some (r, ys) := hm'
        cases hy : ds[k]? with
        | none => rw [hy] at hm2; cases hm2
        | some y =>
          rw [hy] at hm2
          cases hm2
          obtain ⟨w, g1, g2⟩ := r1.get hy
          exact mt_popAt pins s σ H _ _ v us Q I rx rv ⟨a, vs, i, k, w, rfl, rfl, h1, c.1, c.2, by rw [r1.length]; exact hk, g1, q _ _ (rps_erase k r1) g2⟩
    · rw [if_neg c] at hm'
      cases hm'
  | [], _, hm => cases hm
  | .non :: _, _, hm => cases hm
  | .bl _ :: _, _, hm => cases hm
  | .str _ :: _, _, hm => cases hm
  | .tup _ :: _, _, hm => cases hm
  | .loc _ :: _, _, hm => cases hm
  | .ty _ :: _, _, hm => cases hm
  | .fn _ :: _, _, hm => cases hm
  | .fl _ :: _, _, hm => cases hm
  | .fd _ _ :: _, _, hm => cases hm
  | .int _ :: _ :: _, _, hm => cases hm⟩
theorem de_mt {mm : Mt} {name : Str} {o : Expr} {es : List Expr} {apos cpos : Pos} (hi : MtI X mm name) (ho : PE X o (tD X C G W A)) (ha : PA X (e :: es) (tDs X C G W B))
    (hbase : attributeBase o name X.env (eval o X.env) = eval o X.env := by rfl)
    (hfew : ((backTo cpos (starEach (e :: es) X.env)).all (fun x => !x.1) && (backToKw cpos (keywordEach [] X.env)).all (fun x => x.1.isSome)
      && decide ((e :: es).length + ([] : List Keyword).length + (if ([] : List Keyword).isEmpty then 0 else 1) < 30)) = true := by rfl)
    (hline : (apos.endLine == cpos.line) = true := by rfl) (hs : starEach (e :: es) X.env = (false, eval e X.env) :: starEach es X.env := by rfl) (hplain : (backTo cpos (starEach es X.env)).any (·.1) = false := by rfl) :
    PE X (.Call (.Attribute o name apos) (e :: es) [] cpos) (tD X C G W (.mt mm A B)) := by
  obtain ⟨id, hsl, hty, hr⟩ := hi.ex
  exact PE_imp (pe_bm PySem.F.plainAttrs_list hsl hty hr ho ha hbase hfew hline hs hplain) fun σ H Q ⟨m, ρ, S, ra, re, p⟩ =>
    ⟨m, ρ, S, ra, re, Post.imp (Post.bind p) fun x H1 ⟨m1, d, S1, l1, ra1, r1, p1⟩ => by
      by_cases c : isLst d S1 = true
      · rw [if_pos c] at p1
        cases r1 with
        | @loc n q _ t =>
          have c' : (lstAt S1 n).isSome = true := c
          obtain ⟨xs0, hx0⟩ := Option.isSome_iff_exists.mp c'
          obtain ⟨vs0, h1, h2⟩ := ra1.seq t hx0
          exact ⟨.inl ⟨rfl, vs0, h1⟩, m1, ρ, S1, ra1, re.mono l1, Post.imp (Post.bind p1) fun ys H2 ⟨m2, ds, S2, l2, ra2, r2, p2⟩ => ⟨_, m2, S2, .loc n, ds, ra2, (Rp.loc t).mono l2, r2, p2⟩⟩
        | _ => cases c
      · rw [if_neg c] at p1
        exact p1.elim⟩
end
end CC
namespace CC
open PySem PySem.Spec PyProof.Rows L2
def SqK (k : Bool) (K : PySem.W.Frag) (H : Hp) (a : Addr) (xs : List V) : Prop := match k with
  | true => SqL K H a xs
  | false => SqT K H a xs
def ItK (k : Bool) (h : Heap) (it l : Addr) (i : Nat) : Prop := match k with
  | true => h.IsListIter it l i
  | false => h.IsTupleIter it l i
def OfK (k : Bool) (h : Heap) (l : Addr) (us : Array Value) : Prop := match k with
  | true => h.IsList l us
  | false => h.IsTuple l us
def obK (k : Bool) (l : Addr) : Obj := match k with
  | true => { cls := .type "list_iterator", data := .fields #[.ref l, .int 0 0] }
  | false => { cls := .type "tuple_iterator", data := .fields #[.ref l, .int 0 0] }
theorem beginsK (k : Bool) (l : Addr) (us : Array Value) : Begins (.ref l) (obK k l) (fun h => OfK k h l us) := by
  cases k
  · exact begins_tuple l us
  · exact begins_list l us
theorem obK_it {k : Bool} {h : Heap} {it l : Addr} (e : h.get? it = some (obK k l)) : ItK k h it l 0 := by
  cases k
  · exact ⟨_, e, rfl, rfl⟩
  · exact ⟨_, e, rfl, rfl⟩
theorem drawsK (k : Bool) {prog : Program} {w : World} {A : Around} (hh : A.handled = none) {it l : Addr} (ne : l ≠ it) (us : Array Value) : Draws prog w A it [it, l] us.size (fun i v => us[i]? = some v) (fun i h => ItK k h it l i ∧ OfK k h l us) := by
  cases k
  · exact Draws.tuple hh it l ne us
  · exact Draws.list hh it l ne us
theorem ItK.to {k : Bool} {h h' : Heap} {it l : Addr} {i : Nat} (x : ItK k h it l i) (m : ∀ o, h.get? it = some o → h'.get? it = some o) : ItK k h' it l i := by
  cases k
  · exact Heap.IsTupleIter.at x fun o q => m o q
  · exact Heap.IsListIter.at x fun o q => m o q
theorem ItK.obj {k : Bool} {h : Heap} {it l : Addr} {i : Nat} (x : ItK k h it l i) : ∃ o, h.get? it = some o ∧ ∀ v, o.data ≠ .cell v := by
  cases k
  · obtain ⟨o, e, _, d⟩ := x
    exact ⟨o, e, fun v z => by rw [d] at z; cases z⟩
  · obtain ⟨o, e, _, d⟩ := x
    exact ⟨o, e, fun v z => by rw [d] at z; cases z⟩
theorem OfK.to {k : Bool} {h h' : Heap} {l : Addr} {us : Array Value} (x : OfK k h l us) (m : ∀ o, h.get? l = some o → h'.get? l = some o) : OfK k h' l us := by
  cases k
  · exact Heap.IsTuple.at x fun o q => m o q
  · exact Heap.IsList.at x fun o q => m o q
theorem drawsEnd (k : Bool) {prog : Program} {w : World} {A : Around} (hh : A.handled = none) {it l : Addr} {us : Array Value} {i : Nat} (hi : us.size ≤ i) : Draws prog w A it [it, l] i (fun _ _ => True) (fun j h => j = i ∧ ItK k h it l i ∧ OfK k h l us) where
  live := fun _ _ st => let ⟨o, ho, _⟩ := st.2.1.obj; ⟨o, ho⟩
  frame := fun _ _ _ st m => ⟨st.1, st.2.1.to (m it (by simp)), st.2.2.to (m l (by simp))⟩
  item := fun j s Q E hj st _ => absurd st.1 (Nat.ne_of_lt hj)
  done := fun s Q E st hE => by
    obtain ⟨_, s1, s2⟩ := st
    cases k
    · exact wpAny_nextOf_tuple_end hh s1 s2 (by simp; omega) hE
    · exact wpAny_nextOf_list_end hh s1 s2 (by simp; omega) hE
theorem curK (k : Bool) {prog : Program} {w : World} {A : Around} (hh : A.handled = none) {it l : Addr} (ne : l ≠ it) {us : Array Value} {i : Nat} {h : Heap} (q1 : ItK k h it l i) (q2 : OfK k h l us) :
    ∃ (n : Nat) (P : Nat → Value → Prop) (St : Nat → Heap → Prop), Draws prog w A it [it, l] n P St ∧ St i h ∧ i ≤ n ∧ (us.size ≤ i → i = n) := by
  by_cases c : us.size ≤ i
  · exact ⟨_, _, _, drawsEnd k hh c, ⟨rfl, q1, q2⟩, Nat.le_refl _, fun _ => rfl⟩
  · exact ⟨_, _, _, drawsK k hh ne us, ⟨q1, q2⟩, by omega, fun z => absurd z c⟩
section
variable {X : Cx} {pins : List (Addr × Obj)} {σ : L2.St} {H : Hp} {s : Shared} {k : Bool} {a : Addr} {xs ys : List V}
theorem SqK.vals (I : Inv X pins σ H s) (h : SqK k X.K H a xs) : ∃ us : List Value, Vals xs us ∧ OfK k s.heap a us.toArray ∧ a < s.heap.objs.size := by
  cases k
  · obtain ⟨us, r, p, _⟩ := I.tuple h
    obtain ⟨o, e, _⟩ := id p
    exact ⟨us, r, p, Heap.lt_size e⟩
  · obtain ⟨us, r, p, _⟩ := I.list h
    exact ⟨us, r, p.isList, p.lt⟩
theorem SqK.one (I : Inv X pins σ H s) (h : SqK k X.K H a xs) (g : SqK k X.K H a ys) : xs = ys := by
  cases k
  · exact I.tuple_inj h g
  · exact I.list_inj h g
end
def ItzK (k1 k2 : Bool) (K : PySem.W.Frag) (a b : Addr) : It :=
  ⟨fun i H => ∃ (xs ys : List V) (x y : V), SqK k1 K H a xs ∧ SqK k2 K H b ys ∧ xs[i]? = some x ∧ ys[i]? = some y,
    fun i H v H' => ∃ T x y, v = .ref T ∧ H T = none ∧ H' = upd H T (.tup [x, y]) ∧ (∀ xs, SqK k1 K H a xs → xs[i]? = some x) ∧ ∀ ys, SqK k2 K H b ys → ys[i]? = some y,
    fun i H => ∃ xs ys : List V, SqK k1 K H a xs ∧ SqK k2 K H b ys ∧ (xs.length ≤ i ∨ ys.length ≤ i)⟩
theorem turnK2 {P : Program} {w : World} {K : PySem.W.Frag} {elts : List Expr} {kk : Nat} {tpos : Pos} {k1 k2 : Bool} {a b z TI TO i1 i2 : Addr} (D : ZipSep2 z TI TO i1 i2 [i1, a] [i2, b]) (na : a ≠ i1) (nb : b ≠ i2) :
    Turn P w K (.Tuple elts kk tpos) (ItzK k1 k2 K a b) [z, TI, TO, i1, i2] z (fun i h => IsZip h z TI TO .none ∧ IsTupOf2 h TI (.ref i1) (.ref i2) ∧ (∃ x y, IsTupOf2 h TO x y) ∧ ItK k1 h i1 a i ∧ ItK k2 h i2 b i) where
  mem := by simp
  obj := fun i h ⟨qz, qT, ⟨x, y, qO⟩, q1, q2⟩ c hc => by
    have e' : c = z ∨ c = TI ∨ c = TO ∨ c = i1 ∨ c = i2 := by simpa using hc
    rcases e' with rfl | rfl | rfl | rfl | rfl
    · exact ⟨_, qz, fun v n => nomatch n⟩
    · exact ⟨_, qT, fun v n => nomatch n⟩
    · exact ⟨_, qO, fun v n => nomatch n⟩
    · exact q1.obj
    · exact q2.obj
  keep := fun i h h' ⟨qz, qT, ⟨x, y, qO⟩, q1, q2⟩ m =>
    ⟨m z (by simp) _ qz, m TI (by simp) _ qT, ⟨x, y, m TO (by simp) _ qO⟩, q1.to (m i1 (by simp)), q2.to (m i2 (by simp))⟩
  item := by
    intro X eP ew eK calm i pins s σ H E I hf st go
    subst eP ew eK
    obtain ⟨qz, qT, ⟨x0, y0, qO⟩, q1, q2⟩ := st
    obtain ⟨xs, ys, x, y, sx, sy, gx, gy⟩ := go
    obtain ⟨us, ru, ou, _⟩ := sx.vals I
    obtain ⟨vs, rv, ov, _⟩ := sy.vals I
    obtain ⟨u, hu, ru1⟩ := ru.get gx
    obtain ⟨v, hv, rv1⟩ := rv.get gy
    have hh : X.A.in1.handled = none := I.ok.hd calm
    have lu : i < us.toArray.size := by simpa using (List.getElem?_eq_some_iff.mp hu).1
    have lv : i < vs.toArray.size := by simpa using (List.getElem?_eq_some_iff.mp hv).1
    have lz : z < s.heap.objs.size := Heap.lt_size qz
    refine wpAny_pyNext_zipD2_item D (drawsK k1 hh na us.toArray) (drawsK k2 hh nb vs.toArray) qz qT qO ⟨q1, ou⟩ ⟨q2, ov⟩ lu lv fun u' v' h' tk pu pv gz gO g1 g2 gT _ same => ?_
    have eu : u' = u := Option.some.inj (pu.symm.trans (by simpa using hu))
    have ev : v' = v := Option.some.inj (pv.symm.trans (by simpa using hv))
    subst eu ev
    refine ⟨_, rfl, wpAny_letOwnedTupleGo_zip (s := { s with heap := h', toks := tk }) gz fun h2 gz2 but => ?_⟩
    have T2 := (but.2 _ (Nat.ne_of_gt lz)).trans gT
    have ok : ObjOk X.prog X.w (upd H s.heap.objs.size (.tup [x, y])) h2 s.heap.objs.size (.tup [x, y]) := ⟨by show 2 ≤ sizeLine; decide, [u', v'], .cons ru1 (.cons rv1 .nil), ⟨_, T2, rfl, _, rfl⟩⟩
    have I1 : Inv X pins σ (upd H s.heap.objs.size (.tup [x, y])) { s with heap := h2, toks := tk } := I.turnedNew (t' := tk) (ch := [z, TI, TO, i1, i2]) (fun c o nc q => (but.2 c fun e => nc (by simp [e])).trans (same c o (fun e => nc (by simp [e])) (fun e => nc (by simp [e])) (fun e => nc (by simp [e])) (fun e => nc (by simp [e])) q)) hf (Nat.le_refl _) ok
    have still : ∀ c o, c ≠ z → c ≠ TO → c ≠ i1 → c ≠ i2 → s.heap.get? c = some o → h2.get? c = some o := fun c o n1 n2 n3 n4 q => (but.2 c n1).trans (same c o n1 n2 n3 n4 q)
    refine ⟨.ref s.heap.objs.size, _, I1, rfl, ⟨_, x, y, rfl, I.hok.fresh (Nat.le_refl _), rfl, fun l hl => by rw [hl.one I sx]; exact gx, fun l hl => by rw [hl.one I sy]; exact gy⟩, ⟨gz2, still _ _ D.TIz D.TITO D.TIi1 D.TIi2 qT, ⟨u', v', (but.2 _ D.TOz).trans gO⟩, ?_, ?_⟩, fun c hc => ?_⟩
    · exact g1.1.to fun o q => (but.2 _ D.zi1.symm).trans q
    · exact g2.1.to fun o q => (but.2 _ D.zi2.symm).trans q
    · have lc : c < s.heap.objs.size := by
        have e' : c = z ∨ c = TI ∨ c = TO ∨ c = i1 ∨ c = i2 := by simpa using hc
        rcases e' with rfl | rfl | rfl | rfl | rfl
        · exact lz
        · exact Heap.lt_size qT
        · exact Heap.lt_size qO
        · obtain ⟨_, e, _⟩ := q1.obj; exact Heap.lt_size e
        · obtain ⟨_, e, _⟩ := q2.obj; exact Heap.lt_size e
      rw [upd_ne (Nat.ne_of_lt lc)]
      exact (hf c hc).1
  done := by
    intro X eP ew eK calm i pins s σ H E I hf st stop
    subst eP ew eK
    obtain ⟨qz, qT, ⟨x0, y0, qO⟩, q1, q2⟩ := st
    obtain ⟨xs, ys, sx, sy, e⟩ := stop
    obtain ⟨us, ru, ou, _⟩ := sx.vals I
    obtain ⟨vs, rv, ov, _⟩ := sy.vals I
    have hh : X.A.in1.handled = none := I.ok.hd calm
    have l1 := ru.length
    have l2 := rv.length
    obtain ⟨n1, P1, S1, D1, g1, le1, z1⟩ := curK k1 (prog := X.prog) (w := X.w) hh na q1 ou
    obtain ⟨n2, P2, S2, D2, g2, le2, z2⟩ := curK k2 (prog := X.prog) (w := X.w) hh nb q2 ov
    refine wpAny_pyNext_zipD2_end D D1 D2 qz qT qO g1 g2 le1 le2 ?_ fun h' tk same => ⟨rfl, I.turnedL (t' := tk) (ch := [z, TI, TO, i1, i2]) (fun c o nc q => same c o (fun e => nc (by simp [e])) (fun e => nc (by simp [e])) (fun e => nc (by simp [e])) (fun e => nc (by simp [e])) q) hf⟩
    rcases e with e | e
    · exact .inl (z1 (by simp; omega))
    · exact .inr (z2 (by simp; omega))
  self := fun A i s Q E st h => wpAny_pyIter_zip st.1 h
theorem notin {x y z : Nat} (h : x ≠ y) (g : x ≠ z) : x ∉ [y, z] := fun q => by
  rcases List.mem_cons.mp q with e | e
  · exact h e
  · exact g (List.mem_singleton.mp e)
theorem sepN (N a b : Nat) (ha : a < N) (hb : b < N) : ZipSep2 (N + 4) (N + 2) (N + 3) N (N + 1) [N, a] [N + 1, b] where
  TIz := fun e => absurd (show N + 2 = N + 4 from e) (by omega)
  TOz := fun e => absurd (show N + 3 = N + 4 from e) (by omega)
  TITO := fun e => absurd (show N + 2 = N + 3 from e) (by omega)
  TIi1 := fun e => absurd (show N + 2 = N from e) (by omega)
  mem1 := List.mem_cons_self
  zf1 := notin (by omega) (by omega)
  Tf1 := notin (by omega) (by omega)
  TIi2 := fun e => absurd (show N + 2 = N + 1 from e) (by omega)
  mem2 := List.mem_cons_self
  zf2 := notin (by omega) (by omega)
  Tf2 := notin (by omega) (by omega)
  sep1_2 := notin (by omega) (by omega)
  sep2_1 := notin (by omega) (by omega)
def iZipK (K : PySem.W.Frag) (ta : TA) : TI := fun σ H R => ta σ H fun ws H1 => ∃ k1 k2 a b xs ys, ws = [.ref a, .ref b] ∧ SqK k1 K H1 a xs ∧ SqK k2 K H1 b ys ∧ R (ItzK k1 k2 K a b) H1
theorem pi_zipK {X : Cx} {e e2 : Expr} {ta : TA} {p pos tpos : Pos} {elts : List Expr} {kk : Nat} (hg : Gl X "zip") (hm : X.mg "zip" = none) (ha : PA X [e, e2] ta)
    (hs : starEach [e, e2] X.env = (false, eval e X.env) :: starEach [e2] X.env := by rfl) (hpl : (backTo pos (starEach [e2] X.env)).any (·.1) = false := by rfl) :
    PI X (.Tuple elts kk tpos) (.Call (.Name "zip" p) [e, e2] [] pos) (iZipK X.K ta) := by
  refine ⟨fun pins s σ H R I h => Call_ (ld_blt I hg hm PyProof.Rows.boot_zip (PyProof.Rows.callWith_type1 (thn (ha.run pos pins s σ H _ I h) fun us s1 ⟨ws, H1, I1, r1, q1⟩ => ?_) hs hpl))⟩
  obtain ⟨k1, k2, a, b, xs, ys, ew, sx, sy, q⟩ := q1
  subst ew
  obtain ⟨v1, v2, rfl, e1, e2'⟩ := vals2 r1
  cases (show v1 = Value.ref a from e1)
  cases (show v2 = Value.ref b from e2')
  obtain ⟨us1, _, o1, la⟩ := sx.vals I1
  obtain ⟨us2, _, o2, lb⟩ := sy.vals I1
  refine zip_begins2 (beginsK k1 a us1.toArray) (beginsK k2 b us2.toArray) o1 o2 fun h' gz gT gO g1 g2 _ same => wpAny_pyIter_zip gz ?_
  have I2 : Inv X pins σ H1 { s1 with heap := h' } := I1.kept (t' := s1.toks) same
  obtain ⟨N, hN⟩ : ∃ N, N = s1.heap.objs.size := ⟨_, rfl⟩
  rw [← hN] at gz gT gO g1 g2 la lb ⊢
  have D := sepN N a b la lb
  refine ⟨N + 4, [N + 4, N + 2, N + 3, N, N + 1], _, _, H1, rfl, I2, turnK2 D (Nat.ne_of_lt la) (Nat.ne_of_lt (Nat.lt_succ_of_lt lb)), ⟨gz, gT, ⟨_, _, gO⟩, obK_it g1, obK_it g2⟩, fun c hc => ?_, q⟩
  have hle : s1.heap.objs.size ≤ c := by
    have e' : c = N + 4 ∨ c = N + 2 ∨ c = N + 3 ∨ c = N ∨ c = N + 1 := by simpa using hc
    rw [← hN]
    rcases e' with e | e | e | e | e <;> rw [e] <;> first | exact Nat.le_add_right _ _ | exact Nat.le_refl _
  exact I1.fpOk hle (I1.hok.fresh hle)
end CC
namespace CC
open PySem PySem.Spec PyProof.Rows L2
mutual
def tslots : Xp → List Nat
  | .var i => [i]
  | .tup t => tslotsL t
  | .lst t => tslotsL t
  | _ => []
def tslotsL : Xp → List Nat
  | .cons a b => tslots a ++ tslotsL b
  | _ => []
end
def Wp (sl : List Nat) (σ σ' : L2.St) : Prop := ∀ vs : List Nat, (∀ i ∈ sl, i ∈ vs) → wipe σ' vs = wipe σ vs
def gT (K : KW) (mg : Str → Option Value) (t : Xp) : TG := fun v σ H Q => ∃ m ρ S d ρ', RelA K mg m H S ∧ RelE K mg m H σ ρ ∧ Rp K mg m H d v ∧ bindT t d ρ = some ρ' ∧ ∀ σ', RelE K mg m H σ' ρ' → Wp (tslots t) σ σ' → Q σ' H
def gTs (K : KW) (mg : Str → Option Value) (t : Xp) : TGs := fun vs σ H Q => ∃ m ρ S ds ρ', RelA K mg m H S ∧ RelE K mg m H σ ρ ∧ Rps K mg m H ds vs ∧ bindL t ds ρ = some ρ' ∧ ∀ σ', RelE K mg m H σ' ρ' → Wp (tslotsL t) σ σ' → Q σ' H
theorem wipe_mem {σ : L2.St} {i : Nat} : ∀ {vs : List Nat}, i ∈ vs → ∀ x, wipe (σ.set i x) vs = wipe σ vs
  | v :: vs, h, x => by
    unfold wipe
    by_cases e : i ∈ vs
    · rw [wipe_mem e x]
    · have hv : i = v := by
        rcases List.mem_cons.mp h with q | q
        · exact q
        · exact absurd q e
      subst hv
      have : ∀ (ws : List Nat), wipe (σ.set i x) ws = (wipe σ ws).set i x ∨ i ∈ ws := by
        intro ws
        induction ws with
        | nil => exact .inl rfl
        | cons w ws ih =>
          by_cases q : i = w
          · exact .inr (by rw [q]; exact List.mem_cons_self)
          · rcases ih with ih | ih
            · refine .inl ?_
              unfold wipe
              rw [ih]
              exact List.set_comm _ _ q
            · exact .inr (List.mem_cons_of_mem _ ih)
      rcases this vs with q | q
      · rw [q, List.set_set]
      · exact absurd q e
theorem PG_imp {X : Cx} {tg : Expr} {t t' : TG} (h : PG X tg t) (i : ∀ v σ H Q, t' v σ H Q → t v σ H Q) : PG X tg t' := ⟨fun pins s σ H v u Q I r q => h.run pins s σ H v u Q I r (i v σ H Q q)⟩
theorem PGs_imp {X : Cx} {tg : List Expr} {t t' : TGs} (h : PGs X tg t) (i : ∀ v σ H Q, t' v σ H Q → t v σ H Q) : PGs X tg t' := ⟨fun pins s σ H v u Q I r q => h.run pins s σ H v u Q I r (i v σ H Q q)⟩
section
variable {X : Cx} {C : CallSem} {G : Nat → Option D} {W : WX} {a b c e : Expr} {A B D' : Xp} {pos : Pos}
theorem dg_name {i : Nat} {x : Str} (h : PG X (.Name x pos) (gName i)) : PG X (.Name x pos) (gT X.kw X.mg (.var i)) :=
  PG_imp h fun v σ H Q ⟨m, ρ, S, d, ρ', ra, re, r, hb, q⟩ => by
    have hb' : some (ρ.set i (some d)) = some ρ' := hb
    cases hb'
    exact q _ (re.set r) fun vs hv => wipe_mem (hv i List.mem_cons_self) _
theorem dgs_nil : PGs X [] (gTs X.kw X.mg .nil) := PGs_imp pgs_nil fun vs σ H Q ⟨m, ρ, S, ds, ρ', ra, re, r, hb, q⟩ => by
  cases ds with
  | nil =>
    have hb' : some ρ = some ρ' := hb
    cases hb'
    cases r
    exact ⟨rfl, q σ re fun _ _ => rfl⟩
  | cons _ _ => cases hb
theorem dgs_cons {es : List Expr} (h1 : PG X e (gT X.kw X.mg A)) (h2 : PGs X es (gTs X.kw X.mg B)) (hs : (assignEach (e :: es) X.env).map (·.2) = assign e X.env :: (assignEach es X.env).map (·.2) := by rfl) :
    PGs X (e :: es) (gTs X.kw X.mg (.cons A B)) := PGs_imp (pgs_cons h1 h2 hs) fun vs σ H Q ⟨m, ρ, S, ds, ρ', ra, re, r, hb, q⟩ => by
  cases ds with
  | nil => cases hb
  | cons d ds =>
    cases r with
    | cons r1 r2 =>
      have hb' : ((bindT A d ρ).bind fun ρ1 => bindL B ds ρ1) = some ρ' := hb
      cases h : bindT A d ρ with
      | none => rw [h] at hb'; cases hb'
      | some ρ1 =>
        rw [h] at hb'
        refine ⟨_, _, rfl, m, ρ, S, d, ρ1, ra, re, r1, h, fun σ1 re1 w1 => ?_⟩
        refine ⟨m, ρ1, S, ds, ρ', ra, re1, r2, hb', fun σ2 re2 w2 => ?_⟩
        exact q σ2 re2 fun vs hv => (w2 vs fun i hi => hv i (List.mem_append_right _ hi)).trans (w1 vs fun i hi => hv i (List.mem_append_left _ hi))
theorem dg_tup {es : List Expr} {k n : Nat} (hc : X.calm = true) (h : PGs X es (gTs X.kw X.mg A)) (hn : (assignEach es X.env).length = n := by rfl) (hst : (assignEach es X.env).findIdx? (·.1) = none := by rfl)
    (hl : ∀ ds ρ ρ', bindL A ds ρ = some ρ' → ds.length = n := by intro ds ρ ρ' z; exact bindL_len z) : PG X (.Tuple es k pos) (gT X.kw X.mg (.tup A)) :=
  PG_imp (pg_tup hc h hn hst) fun v σ H Q ⟨m, ρ, S, d, ρ', ra, re, r, hb, q⟩ => by
    cases r with
    | @tup p vs ds t hs =>
      have hb' : bindL A ds ρ = some ρ' := hb
      exact ⟨p, vs, rfl, t.t, hs.length.trans (hl ds ρ ρ' hb'), m, ρ, S, ds, ρ', ra, re, hs, hb', fun σ' re' w => q σ' re' w⟩
    | _ => cases hb
end
def lenX : Xp → Nat
  | .cons _ b => lenX b + 1
  | _ => 0
theorem bindL_len : ∀ {A : Xp} {ds : List D} {ρ ρ' : Env}, bindL A ds ρ = some ρ' → ds.length = lenX A
  | .nil, [], _, _, _ => rfl
  | .cons a b, d :: ds, ρ, ρ', h => by
    have h' : ((bindT a d ρ).bind fun ρ1 => bindL b ds ρ1) = some ρ' := h
    cases q : bindT a d ρ with
    | none => rw [q] at h'; cases h'
    | some ρ1 =>
      rw [q] at h'
      show ds.length + 1 = lenX b + 1
      rw [bindL_len (A := b) h']
  | .nil, _ :: _, _, _, h => by cases h
  | .cons _ _, [], _, _, h => by cases h
section
variable {K : KW} {mg : Str → Option Value} {m0 : Mp} {H0 : Hp}
theorem src_lst {n : Nat} {a : Addr} {b : Bool} (t : m0[n]? = some (a, b)) : SrcOk K mg m0 H0 (.lst n) (Itl K a) := fun m H S i l ra => by
  have t' := l.pre _ _ t
  refine ⟨fun h => ?_, fun d h => ?_⟩
  · have h' : (lstAt S n).map (fun ds => ds[i]?) = some none := h
    cases q : lstAt S n with
    | none => rw [q] at h'; cases h'
    | some ds =>
      rw [q] at h'
      obtain ⟨vs, h1, h2⟩ := ra.seq t' q
      have h3 : ds[i]? = none := Option.some.inj h'
      exact ⟨vs, h1, by rw [h2.length]; exact List.getElem?_eq_none_iff.mp h3⟩
  · have h' : (lstAt S n).map (fun ds => ds[i]?) = some (some d) := h
    cases q : lstAt S n with
    | none => rw [q] at h'; cases h'
    | some ds =>
      rw [q] at h'
      obtain ⟨vs, h1, h2⟩ := ra.seq t' q
      have h3 : ds[i]? = some d := Option.some.inj h'
      obtain ⟨v, h4, h5⟩ := h2.get h3
      refine ⟨⟨vs, v, h1, h4⟩, fun x H' ⟨e, f⟩ => ?_⟩
      subst e
      have : x = v := Option.some.inj ((f vs h1).symm.trans h4)
      subst this
      exact ⟨Le.refl _ _, ra, h5⟩
theorem src_tup {a : Addr} {vs : List V} {ds : List D} (t : SqU K H0 a vs) (hs : Rps K mg m0 H0 ds vs) : SrcOk K mg m0 H0 (.ds ds) (Itt K a) := fun m H S i l ra => by
  have t' : SqT K H a vs := (sqT_lt l t).t
  have hs' := hs.mov l
  refine ⟨fun h => ?_, fun d h => ?_⟩
  · have h' : ds[i]? = none := Option.some.inj h
    exact ⟨vs, t', by rw [hs'.length]; exact List.getElem?_eq_none_iff.mp h'⟩
  · have h' : ds[i]? = some d := Option.some.inj h
    obtain ⟨v, h4, h5⟩ := hs'.get h'
    refine ⟨⟨vs, v, t', h4⟩, fun x H' ⟨e, f⟩ => ?_⟩
    subst e
    have : x = v := Option.some.inj ((f vs t').symm.trans h4)
    subst this
    exact ⟨Le.refl _ _, ra, h5⟩
theorem src_str {z : Str} : SrcOk K mg m0 H0 (.ds (z.cps.toList.map fun c => .str ⟨#[c]⟩)) (Its z) := fun m H S i l ra => by
  have g : (z.cps.toList.map fun c => D.str ⟨#[c]⟩)[i]? = (z.cps[i]?).map fun c => D.str ⟨#[c]⟩ := by
    rw [List.getElem?_map, Array.getElem?_toList]
  refine ⟨fun h => ?_, fun d h => ?_⟩
  · have h' : (z.cps.toList.map fun c => D.str ⟨#[c]⟩)[i]? = none := Option.some.inj h
    rw [g] at h'
    exact Array.getElem?_eq_none_iff.mp (Option.map_eq_none_iff.mp h')
  · have h' : (z.cps.toList.map fun c => D.str ⟨#[c]⟩)[i]? = some d := Option.some.inj h
    rw [g] at h'
    cases q : z.cps[i]? with
    | none => rw [q] at h'; cases h'
    | some c =>
      rw [q] at h'
      cases h'
      refine ⟨(Array.getElem?_eq_some_iff.mp q).1, fun x H' ⟨e, c', hc, hx⟩ => ?_⟩
      subst e
      rw [q] at hc
      cases hc
      subst hx
      exact ⟨Le.refl _ _, ra, .str _⟩
theorem rangeD_get {lo : Int} {n i : Nat} : (rangeD lo n)[i]? = if i < n then some (.int (lo + (i : Nat))) else none := by
  unfold rangeD
  rw [List.getElem?_map]
  by_cases h : i < n
  · rw [List.getElem?_range h, if_pos h]
    rfl
  · rw [if_neg h, List.getElem?_eq_none (by simpa using h)]
    rfl
theorem src_rng {lo : Int} {n : Nat} : SrcOk K mg m0 H0 (.ds (rangeD lo n)) (Itr lo n) := fun m H S i l ra => by
  refine ⟨fun h => ?_, fun d h => ?_⟩
  · have h' : (rangeD lo n)[i]? = none := Option.some.inj h
    rw [rangeD_get] at h'
    by_cases c : i < n
    · rw [if_pos c] at h'; cases h'
    · exact Nat.le_of_not_lt c
  · have h' : (rangeD lo n)[i]? = some d := Option.some.inj h
    rw [rangeD_get] at h'
    by_cases c : i < n
    · rw [if_pos c] at h'
      cases h'
      refine ⟨c, fun x H' ⟨e, f⟩ => ?_⟩
      subst e
      subst f
      exact ⟨Le.refl _ _, ra, .int _⟩
    · rw [if_neg c] at h'; cases h'
theorem pair_new {m : Mp} {H : Hp} {S : Sto} {T : Addr} {x y : V} {d e : D} (ra : RelA K mg m H S) (hT : H T = none) (rx : Rp K mg m H d x) (ry : Rp K mg m H e y) :
    Le m m H (upd H T (.tup [x, y])) ∧ RelA K mg m (upd H T (.tup [x, y])) S ∧ Rp K mg m (upd H T (.tup [x, y])) (.tup [d, e]) (.ref T) :=
  ⟨Le.new hT, ra.new hT, .tup (.inl upd_same) (.cons (rx.mono (Le.new hT)) (.cons (ry.mono (Le.new hT)) .nil))⟩
theorem src_fl {a : Addr} {o : Obj} {vs : List V} {ds : List D} (t : H0 a = some (.frz o (.lst vs))) (hs : Rps K mg m0 H0 ds vs) : SrcOk K mg m0 H0 (.ds ds) (Itl K a) := fun m H S i l ra => by
  have t' : SqL K H a vs := .inl (.inr ⟨o, l.fz _ _ _ t⟩)
  have hs' := hs.mov l
  refine ⟨fun h => ?_, fun d h => ?_⟩
  · have h' : ds[i]? = none := Option.some.inj h
    exact ⟨vs, t', by rw [hs'.length]; exact List.getElem?_eq_none_iff.mp h'⟩
  · have h' : ds[i]? = some d := Option.some.inj h
    obtain ⟨v, h4, h5⟩ := hs'.get h'
    refine ⟨⟨vs, v, t', h4⟩, fun x H' ⟨e, f⟩ => ?_⟩
    subst e
    have : x = v := Option.some.inj ((f vs t').symm.trans h4)
    subst this
    exact ⟨Le.refl _ _, ra, h5⟩
theorem enumL_get : ∀ {ds : List D} {k i : Nat}, (enumL k ds)[i]? = ds[i]?.map fun x => D.tup [.int ((k + i : Nat) : Int), x]
  | [], k, i => by simp [enumL]
  | d :: ds, k, 0 => by simp [enumL]
  | d :: ds, k, i + 1 => by
    show (enumL (k + 1) ds)[i]? = _
    rw [enumL_get, List.getElem?_cons_succ]
    congr 1
    funext x
    congr 4
    omega
theorem src_enumF {a : Addr} {o : Obj} {vs : List V} {ds : List D} (t : H0 a = some (.frz o (.lst vs))) (hs : Rps K mg m0 H0 ds vs) : SrcOk K mg m0 H0 (.ds (enumL 0 ds)) (Ite K a) := fun m H S i l ra => by
  have t' : SqL K H a vs := .inl (.inr ⟨o, l.fz _ _ _ t⟩)
  have hs' := hs.mov l
  have g : (enumL 0 ds)[i]? = ds[i]?.map fun x => D.tup [.int ((i : Nat) : Int), x] := by
    rw [enumL_get, Nat.zero_add]
  refine ⟨fun h => ?_, fun d h => ?_⟩
  · have h' : (enumL 0 ds)[i]? = none := Option.some.inj h
    rw [g] at h'
    exact ⟨vs, t', by rw [hs'.length]; exact List.getElem?_eq_none_iff.mp (Option.map_eq_none_iff.mp h')⟩
  · have h' : (enumL 0 ds)[i]? = some d := Option.some.inj h
    rw [g] at h'
    cases q2 : ds[i]? with
    | none => rw [q2] at h'; cases h'
    | some y =>
      rw [q2] at h'
      cases h'
      obtain ⟨v, h4, h5⟩ := hs'.get q2
      refine ⟨⟨vs, v, t', h4⟩, fun x H' ⟨T, x', e1, hT, e2, f⟩ => ?_⟩
      have : x' = v := Option.some.inj ((f vs t').symm.trans h4)
      subst this e1 e2
      exact pair_new ra hT (.int _) h5
theorem src_zipM {n : Nat} {a a' : Addr} {b : Bool} {o' : Obj} {ws : List V} {es : List D} (t : m0[n]? = some (a, b)) (u : H0 a' = some (.frz o' (.lst ws))) (hs2 : Rps K mg m0 H0 es ws) : SrcOk K mg m0 H0 (.zipF n es) (Itz K a a') := fun m H S i l ra => by
  have t' := l.pre _ _ t
  have u' : SqL K H a' ws := .inl (.inr ⟨o', l.fz _ _ _ u⟩)
  have h4 := hs2.mov l
  have key : ∀ o, (Src.zipF n es).get i S = some o → ∃ ds vs, SqL K H a vs ∧ Rps K mg m H ds vs ∧ o = (ds[i]?.bind fun x => es[i]?.map fun y => D.tup [x, y]) := fun o h => by
    have h' : ((lstAt S n).map fun a => a[i]?.bind fun x => es[i]?.map fun y => D.tup [x, y]) = some o := h
    cases q : lstAt S n with
    | none => rw [q] at h'; cases h'
    | some ds =>
      rw [q] at h'
      obtain ⟨vs, h1, h2⟩ := ra.seq t' q
      exact ⟨ds, vs, h1, h2, (Option.some.inj h').symm⟩
  refine ⟨fun h => ?_, fun d h => ?_⟩
  · obtain ⟨ds, vs, h1, h3, e⟩ := key none h
    refine ⟨vs, ws, h1, u', ?_⟩
    rw [h3.length, h4.length]
    cases q : ds[i]? with
    | none => exact .inl (List.getElem?_eq_none_iff.mp q)
    | some x =>
      cases q2 : es[i]? with
      | none => exact .inr (List.getElem?_eq_none_iff.mp q2)
      | some y => rw [q, q2] at e; cases e
  · obtain ⟨ds, vs, h1, h3, e⟩ := key (some d) h
    cases q : ds[i]? with
    | none => rw [q] at e; cases e
    | some x =>
      cases q2 : es[i]? with
      | none => rw [q, q2] at e; cases e
      | some y =>
        rw [q, q2] at e
        cases e
        obtain ⟨v, g1, r1⟩ := h3.get q
        obtain ⟨w, g2, r2⟩ := h4.get q2
        refine ⟨⟨vs, ws, v, w, h1, u', g1, g2⟩, fun z H' ⟨T, v', w', e1, hT, e2, f1, f2⟩ => ?_⟩
        have ev : v' = v := Option.some.inj ((f1 vs h1).symm.trans g1)
        have ew : w' = w := Option.some.inj ((f2 ws u').symm.trans g2)
        subst ev ew e1 e2
        exact pair_new ra hT r1 r2
theorem src_zipF {a a' : Addr} {o o' : Obj} {vs ws : List V} {ds es : List D} (t : H0 a = some (.frz o (.lst vs))) (hs : Rps K mg m0 H0 ds vs) (u : H0 a' = some (.frz o' (.lst ws))) (hs2 : Rps K mg m0 H0 es ws) :
    SrcOk K mg m0 H0 (.ds ((ds.zip es).map fun p => .tup [p.1, p.2])) (Itz K a a') := fun m H S i l ra => by
  have t' : SqL K H a vs := .inl (.inr ⟨o, l.fz _ _ _ t⟩)
  have u' : SqL K H a' ws := .inl (.inr ⟨o', l.fz _ _ _ u⟩)
  have h3 := hs.mov l
  have h4 := hs2.mov l
  refine ⟨fun h => ?_, fun d h => ?_⟩
  · have h' : ((ds.zip es).map fun p => D.tup [p.1, p.2])[i]? = none := Option.some.inj h
    have h5 := List.getElem?_eq_none_iff.mp h'
    rw [List.length_map, List.length_zip] at h5
    refine ⟨vs, ws, t', u', ?_⟩
    rw [h3.length, h4.length]
    omega
  · have h' : ((ds.zip es).map fun p => D.tup [p.1, p.2])[i]? = some d := Option.some.inj h
    rw [List.getElem?_map] at h'
    cases q0 : (ds.zip es)[i]? with
    | none => rw [q0] at h'; cases h'
    | some p =>
      rw [q0] at h'
      cases h'
      obtain ⟨x, y⟩ := p
      obtain ⟨q, q2⟩ := List.getElem?_zip_eq_some.mp q0
      obtain ⟨v, g1, r1⟩ := h3.get q
      obtain ⟨w, g2, r2⟩ := h4.get q2
      refine ⟨⟨vs, ws, v, w, t', u', g1, g2⟩, fun z H' ⟨T, v', w', e1, hT, e2, f1, f2⟩ => ?_⟩
      have ev : v' = v := Option.some.inj ((f1 vs t').symm.trans g1)
      have ew : w' = w := Option.some.inj ((f2 ws u').symm.trans g2)
      subst ev ew e1 e2
      exact pair_new ra hT r1 r2
theorem src_zip {n k : Nat} {a a' : Addr} {b b' : Bool} (t : m0[n]? = some (a, b)) (u : m0[k]? = some (a', b')) : SrcOk K mg m0 H0 (.zip n k) (Itz K a a') := fun m H S i l ra => by
  have t' := l.pre _ _ t
  have u' := l.pre _ _ u
  have key : ∀ o, (Src.zip n k).get i S = some o → ∃ ds es vs ws, SqL K H a vs ∧ SqL K H a' ws ∧ Rps K mg m H ds vs ∧ Rps K mg m H es ws ∧ o = (ds[i]?.bind fun x => es[i]?.map fun y => D.tup [x, y]) := fun o h => by
    have h' : ((lstAt S n).bind fun a => (lstAt S k).map fun b => a[i]?.bind fun x => b[i]?.map fun y => D.tup [x, y]) = some o := h
    cases q : lstAt S n with
    | none => rw [q] at h'; cases h'
    | some ds =>
      cases q2 : lstAt S k with
      | none => rw [q, q2] at h'; cases h'
      | some es =>
        rw [q, q2] at h'
        obtain ⟨vs, h1, h2⟩ := ra.seq t' q
        obtain ⟨ws, h3, h4⟩ := ra.seq u' q2
        exact ⟨ds, es, vs, ws, h1, h3, h2, h4, (Option.some.inj h').symm⟩
  refine ⟨fun h => ?_, fun d h => ?_⟩
  · obtain ⟨ds, es, vs, ws, h1, h2, h3, h4, e⟩ := key none h
    refine ⟨vs, ws, h1, h2, ?_⟩
    rw [h3.length, h4.length]
    cases q : ds[i]? with
    | none => exact .inl (List.getElem?_eq_none_iff.mp q)
    | some x =>
      cases q2 : es[i]? with
      | none => exact .inr (List.getElem?_eq_none_iff.mp q2)
      | some y => rw [q, q2] at e; cases e
  · obtain ⟨ds, es, vs, ws, h1, h2, h3, h4, e⟩ := key (some d) h
    cases q : ds[i]? with
    | none => rw [q] at e; cases e
    | some x =>
      cases q2 : es[i]? with
      | none => rw [q, q2] at e; cases e
      | some y =>
        rw [q, q2] at e
        cases e
        obtain ⟨v, g1, r1⟩ := h3.get q
        obtain ⟨w, g2, r2⟩ := h4.get q2
        refine ⟨⟨vs, ws, v, w, h1, h2, g1, g2⟩, fun z H' ⟨T, v', w', e1, hT, e2, f1, f2⟩ => ?_⟩
        have ev : v' = v := Option.some.inj ((f1 vs h1).symm.trans g1)
        have ew : w' = w := Option.some.inj ((f2 ws h2).symm.trans g2)
        subst ev ew e1 e2
        exact pair_new ra hT r1 r2
theorem src_zipFT {a a' : Addr} {o : Obj} {vs ws : List V} {ds es : List D} (t : H0 a = some (.frz o (.lst vs))) (hs : Rps K mg m0 H0 ds vs) (u : SqU K H0 a' ws) (hs2 : Rps K mg m0 H0 es ws) :
    SrcOk K mg m0 H0 (.ds ((ds.zip es).map fun p => .tup [p.1, p.2])) (ItzK true false K a a') := fun m H S i l ra => by
  have t' : SqL K H a vs := .inl (.inr ⟨o, l.fz _ _ _ t⟩)
  have u' : SqT K H a' ws := (sqT_lt l u).t
  have h3 := hs.mov l
  have h4 := hs2.mov l
  refine ⟨fun h => ?_, fun d h => ?_⟩
  · have h' : ((ds.zip es).map fun p => D.tup [p.1, p.2])[i]? = none := Option.some.inj h
    have h5 := List.getElem?_eq_none_iff.mp h'
    rw [List.length_map, List.length_zip] at h5
    refine ⟨vs, ws, t', u', ?_⟩
    rw [h3.length, h4.length]
    omega
  · have h' : ((ds.zip es).map fun p => D.tup [p.1, p.2])[i]? = some d := Option.some.inj h
    rw [List.getElem?_map] at h'
    cases q0 : (ds.zip es)[i]? with
    | none => rw [q0] at h'; cases h'
    | some p =>
      rw [q0] at h'
      cases h'
      obtain ⟨x, y⟩ := p
      obtain ⟨q, q2⟩ := List.getElem?_zip_eq_some.mp q0
      obtain ⟨v, g1, r1⟩ := h3.get q
      obtain ⟨w, g2, r2⟩ := h4.get q2
      refine ⟨⟨vs, ws, v, w, t', u', g1, g2⟩, fun z H' ⟨T, v', w', e1, hT, e2, f1, f2⟩ => ?_⟩
      have ev : v' = v := Option.some.inj ((f1 vs t').symm.trans g1)
      have ew : w' = w := Option.some.inj ((f2 ws u').symm.trans g2)
      subst ev ew e1 e2
      exact pair_new ra hT r1 r2
theorem src_zipT {a a' : Addr} {vs ws : List V} {ds es : List D} (t : SqU K H0 a vs) (hs : Rps K mg m0 H0 ds vs) (u : SqU K H0 a' ws) (hs2 : Rps K mg m0 H0 es ws) :
    SrcOk K mg m0 H0 (.ds ((ds.zip es).map fun p => .tup [p.1, p.2])) (RZ.ItzT K a a') := fun m H S i l ra => by
  have t' : SqT K H a vs := (sqT_lt l t).t
  have u' : SqT K H a' ws := (sqT_lt l u).t
  have h3 := hs.mov l
  have h4 := hs2.mov l
  refine ⟨fun h => ?_, fun d h => ?_⟩
  · have h' : ((ds.zip es).map fun p => D.tup [p.1, p.2])[i]? = none := Option.some.inj h
    have h5 := List.getElem?_eq_none_iff.mp h'
    rw [List.length_map, List.length_zip] at h5
    refine ⟨vs, ws, t', u', ?_⟩
    rw [h3.length, h4.length]
    omega
  · have h' : ((ds.zip es).map fun p => D.tup [p.1, p.2])[i]? = some d := Option.some.inj h
    rw [List.getElem?_map] at h'
    cases q0 : (ds.zip es)[i]? with
    | none => rw [q0] at h'; cases h'
    | some p =>
      rw [q0] at h'
      cases h'
      obtain ⟨x, y⟩ := p
      obtain ⟨q, q2⟩ := List.getElem?_zip_eq_some.mp q0
      obtain ⟨v, g1, r1⟩ := h3.get q
      obtain ⟨w, g2, r2⟩ := h4.get q2
      refine ⟨⟨vs, ws, v, w, t', u', g1, g2⟩, fun z H' ⟨T, v', w', e1, hT, e2, f1, f2⟩ => ?_⟩
      have ev : v' = v := Option.some.inj ((f1 vs t').symm.trans g1)
      have ew : w' = w := Option.some.inj ((f2 ws u').symm.trans g2)
      subst ev ew e1 e2
      exact pair_new ra hT r1 r2
theorem src_enum {n : Nat} {a : Addr} {b : Bool} (t : m0[n]? = some (a, b)) : SrcOk K mg m0 H0 (.enum n) (Ite K a) := fun m H S i l ra => by
  have t' := l.pre _ _ t
  refine ⟨fun h => ?_, fun d h => ?_⟩
  · have h' : (lstAt S n).map (fun ds => ds[i]?.map fun x => D.tup [.int (i : Nat), x]) = some none := h
    cases q : lstAt S n with
    | none => rw [q] at h'; cases h'
    | some ds =>
      rw [q] at h'
      obtain ⟨vs, h1, h2⟩ := ra.seq t' q
      have h3 : (ds[i]?.map fun x => D.tup [.int (i : Nat), x]) = none := Option.some.inj h'
      refine ⟨vs, h1, by rw [h2.length]; exact List.getElem?_eq_none_iff.mp (Option.map_eq_none_iff.mp h3)⟩
  · have h' : (lstAt S n).map (fun ds => ds[i]?.map fun x => D.tup [.int (i : Nat), x]) = some (some d) := h
    cases q : lstAt S n with
    | none => rw [q] at h'; cases h'
    | some ds =>
      rw [q] at h'
      obtain ⟨vs, h1, h2⟩ := ra.seq t' q
      have h3 : (ds[i]?.map fun x => D.tup [.int (i : Nat), x]) = some d := Option.some.inj h'
      cases q2 : ds[i]? with
      | none => rw [q2] at h3; cases h3
      | some y =>
        rw [q2] at h3
        cases h3
        obtain ⟨v, h4, h5⟩ := h2.get q2
        refine ⟨⟨vs, v, h1, h4⟩, fun x H' ⟨T, x', e1, hT, e2, f⟩ => ?_⟩
        have : x' = v := Option.some.inj ((f vs h1).symm.trans h4)
        subst this e1 e2
        exact pair_new ra hT (.int _) h5
end
section
variable {X : Cx} {C : CallSem} {G : Nat → Option D} {W : WX} {a b c e tg : Expr} {A B D' : Xp} {pos : Pos}
theorem di_itr (ha : PE X a (tD X C G W A)) : PI X tg a (tDi X C G W (.itr A)) := by
  refine ⟨fun pins s σ H R' I ⟨m, ρ, S, ra, re, p⟩ => ?_⟩
  have p0 : Post X.kw X.mg (fun c d H' => W c d σ H') (SrcOk X.kw X.mg) m H ((ev C G A ρ S).bind fun x S1 => R.opt (srcOf x S1) S1) R' := p
  cases q : ev C G A ρ S with
  | bad => rw [q] at p0; exact p0.elim
  | exc cc pp SS =>
    rw [q] at p0
    exact (pi_list ha).run pins s σ H R' I ⟨m, ρ, S, ra, re, by rw [q]; exact p0⟩
  | ok d S1 =>
    rw [q] at p0
    have p1 : Post X.kw X.mg (fun c d H' => W c d σ H') (SrcOk X.kw X.mg) m H (R.opt (srcOf d S1) S1) R' := p0
    obtain ⟨src, hsrc, p2⟩ := post_opt p1
    cases d with
    | fl ds =>
      cases hsrc
      refine (pi_list ha).run pins s σ H R' I ⟨m, ρ, S, ra, re, ?_⟩
      rw [q]
      intro m' H' v l ra' rp
      cases rp with
      | fl t hs => exact ⟨_, rfl, ⟨_, .inl (.inr ⟨_, t⟩)⟩, p2 m' H' _ l ra' (src_fl t hs)⟩
    | tup ds =>
      cases hsrc
      refine (pi_tup ha).run pins s σ H R' I ⟨m, ρ, S, ra, re, ?_⟩
      rw [q]
      intro m' H' v l ra' rp
      cases rp with
      | tup t hs => exact ⟨_, rfl, ⟨_, t.t⟩, p2 m' H' _ l ra' (src_tup t hs)⟩
    | loc n =>
      have hsrc' : (lstAt S1 n).map (fun _ => Src.lst n) = some src := hsrc
      cases q2 : lstAt S1 n with
      | none => rw [q2] at hsrc'; cases hsrc'
      | some ds =>
        rw [q2] at hsrc'
        cases hsrc'
        refine (pi_list ha).run pins s σ H R' I ⟨m, ρ, S, ra, re, ?_⟩
        rw [q]
        intro m' H' v l ra' rp
        cases rp with
        | loc t =>
          obtain ⟨vs, h1, h2⟩ := ra'.seq t q2
          exact ⟨_, rfl, ⟨vs, h1⟩, p2 m' H' _ l ra' (src_lst t)⟩
    | str z =>
      cases hsrc
      refine (pi_str ha).run pins s σ H R' I ⟨m, ρ, S, ra, re, ?_⟩
      rw [q]
      intro m' H' v l ra' rp
      cases rp
      exact ⟨z, rfl, p2 m' H' _ l ra' src_str⟩
    | _ => cases hsrc
theorem small_62 {i : Int} (h : small62 i = true) : -(2 ^ 62) ≤ i ∧ i < 2 ^ 62 := by
  obtain ⟨h1, h2⟩ := Bool.and_eq_true_iff.mp h
  exact ⟨of_decide_eq_true h1, of_decide_eq_true h2⟩
theorem di_rng1 {p : Pos} {cb : Bool} (cx : Ctx cb X) (hg : Gl X "range") (ha : PE X a (tD X C G W A)) (hs : starEach [a] X.env = [(false, eval a X.env)] := by rfl) : PI X tg (.Call (.Name "range" p) [a] [] pos) (tDi X C G W (.rng1 A)) :=
  PI_imp (pi_range1 hg (cx.nob "range" (by decide +kernel)) (da_cons ha da_nil hs) hs) fun σ H R' ⟨m, ρ, S, ra, re, p⟩ => by
    refine ⟨m, ρ, S, ra, re, ?_⟩
    have p0 : Post X.kw X.mg (fun c d H' => W c d σ H') (SrcOk X.kw X.mg) m H ((asI (ev C G A ρ S)).bind fun i S1 => if small62 i then .ok (.ds (rangeD 0 i.toNat)) S1 else .bad) R' := p
    show Post X.kw X.mg (fun c d H' => W c d σ H') (Rps X.kw X.mg) m H ((ev C G A ρ S).bind fun x S1 => .ok [x] S1) _
    cases q : ev C G A ρ S with
    | bad => rw [q] at p0; exact p0
    | exc cc pp SS => rw [q] at p0; exact p0
    | ok d S1 =>
      rw [q] at p0
      cases d with
      | int i =>
        have p1 : Post X.kw X.mg (fun c d H' => W c d σ H') (SrcOk X.kw X.mg) m H (if small62 i then .ok (.ds (rangeD 0 i.toNat)) S1 else .bad) R' := p0
        by_cases cc : small62 i = true
        · rw [if_pos cc] at p1
          intro m' H' vs l ra' rp
          obtain ⟨v, rfl, rv⟩ := rps1 rp
          cases rv
          obtain ⟨c1, c2⟩ := small_62 cc
          exact ⟨i, rfl, c1, c2, p1 m' H' _ l ra' src_rng⟩
        · rw [if_neg cc] at p1
          exact p1.elim
      | _ => exact p0.elim
theorem di_zip2 {p tpos : Pos} {elts : List Expr} {kk : Nat} {cb : Bool} (cx : Ctx cb X) (hg : Gl X "zip") (ha : PE X a (tD X C G W A)) (hb : PE X b (tD X C G W B))
    (hs2 : starEach [b] X.env = (false, eval b X.env) :: starEach [] X.env := by rfl)
    (hs : starEach [a, b] X.env = (false, eval a X.env) :: starEach [b] X.env := by rfl) (hpl : (backTo pos (starEach [b] X.env)).any (·.1) = false := by rfl) :
    PI X (.Tuple elts kk tpos) (.Call (.Name "zip" p) [a, b] [] pos) (tDi X C G W (.zip2 A B)) :=
  PI_imp (pi_zipK hg (cx.nob "zip" (by decide +kernel)) (da_cons ha (da_cons hb da_nil hs2) hs) hs hpl) fun σ H R' ⟨m, ρ, S, ra, re, p⟩ => by
    refine ⟨m, ρ, S, ra, re, ?_⟩
    have p0 : Post X.kw X.mg (fun c d H' => W c d σ H') (SrcOk X.kw X.mg) m H ((ev C G A ρ S).bind fun x S1 => (ev C G B ρ S1).bind fun y S2 => match x, y with
      | .loc n, .loc k => match lstAt S2 n, lstAt S2 k with
        | some _, some _ => .ok (.zip n k) S2
        | _, _ => .bad
      | .tup xs, .tup ys => .ok (.ds ((xs.zip ys).map fun p => .tup [p.1, p.2])) S2
      | .fl xs, .fl ys => .ok (.ds ((xs.zip ys).map fun p => .tup [p.1, p.2])) S2
      | .fl xs, .tup ys => .ok (.ds ((xs.zip ys).map fun p => .tup [p.1, p.2])) S2
      | .loc n, .fl ys => match lstAt S2 n with
        | some _ => .ok (.zipF n ys) S2
        | none => .bad
      | _, _ => .bad) R' := p
    show Post X.kw X.mg (fun c d H' => W c d σ H') (Rps X.kw X.mg) m H ((ev C G A ρ S).bind fun x S1 => ((ev C G B ρ S1).bind fun y S2 => .ok [y] S2).bind fun xs S2 => .ok (x :: xs) S2) _
    cases q : ev C G A ρ S with
    | bad => rw [q] at p0; exact p0
    | exc cc pp SS => rw [q] at p0; exact p0
    | ok d S1 =>
      rw [q] at p0
      simp only [R.bind_ok] at p0 ⊢
      cases q1 : ev C G B ρ S1 with
      | bad => rw [q1] at p0; exact p0
      | exc cc pp SS => rw [q1] at p0; exact p0
      | ok d2 S2 =>
        rw [q1] at p0
        simp only [R.bind_ok] at p0 ⊢
        intro m' H' vs l ra' rp
        obtain ⟨v, w, rfl, rv, rw'⟩ := rps2 rp
        cases rv with
        | loc t =>
          rename_i n1 a1 b1
          cases rw' with
          | loc u =>
            rename_i n2 a2 b2
            cases h1 : lstAt S2 n1 with
            | none => simp only [h1] at p0; exact p0.elim
            | some ds =>
              cases h2 : lstAt S2 n2 with
              | none => simp only [h1, h2] at p0; exact p0.elim
              | some es =>
                simp only [h1, h2] at p0
                obtain ⟨vs, g1, _⟩ := ra'.seq t h1
                obtain ⟨ws, g2, _⟩ := ra'.seq u h2
                exact ⟨true, true, _, _, vs, ws, rfl, g1, g2, p0 m' H' _ l ra' (src_zip t u)⟩
          | fl u hs2 =>
            cases h1 : lstAt S2 n1 with
            | none => simp only [h1] at p0; exact p0.elim
            | some ds =>
              simp only [h1] at p0
              obtain ⟨vs, g1, _⟩ := ra'.seq t h1
              exact ⟨true, true, _, _, vs, _, rfl, g1, .inl (.inr ⟨_, u⟩), p0 m' H' _ l ra' (src_zipM t u hs2)⟩
          | _ => exact p0.elim
        | tup t hs =>
          cases rw' with
          | tup u hs2 => exact ⟨false, false, _, _, _, _, rfl, t.t, u.t, p0 m' H' _ l ra' (src_zipT t hs u hs2)⟩
          | _ => exact p0.elim
        | fl t hs =>
          cases rw' with
          | fl u hs2 => exact ⟨true, true, _, _, _, _, rfl, .inl (.inr ⟨_, t⟩), .inl (.inr ⟨_, u⟩), p0 m' H' _ l ra' (src_zipF t hs u hs2)⟩
          | tup u hs2 => exact ⟨true, false, _, _, _, _, rfl, .inl (.inr ⟨_, t⟩), u.t, p0 m' H' _ l ra' (src_zipFT t hs u hs2)⟩
          | _ => exact p0.elim
        | _ => cases rw' <;> exact p0.elim
theorem di_enum {p tpos : Pos} {elts : List Expr} {kk : Nat} {cb : Bool} (cx : Ctx cb X) (hg : Gl X "enumerate") (ha : PE X a (tD X C G W A)) (hs : starEach [a] X.env = [(false, eval a X.env)] := by rfl) :
    PI X (.Tuple elts kk tpos) (.Call (.Name "enumerate" p) [a] [] pos) (tDi X C G W (.enum A)) :=
  PI_imp (pi_enum hg (cx.nob "enumerate" (by decide +kernel)) (da_cons ha da_nil hs) hs) fun σ H R' ⟨m, ρ, S, ra, re, p⟩ => by
    refine ⟨m, ρ, S, ra, re, ?_⟩
    have p0 : Post X.kw X.mg (fun c d H' => W c d σ H') (SrcOk X.kw X.mg) m H ((ev C G A ρ S).bind fun x S1 => match x with
      | .fl ds => .ok (.ds (enumL 0 ds)) S1
      | .loc n => match lstAt S1 n with
        | some _ => .ok (.enum n) S1
        | none => .bad
      | _ => .bad) R' := p
    show Post X.kw X.mg (fun c d H' => W c d σ H') (Rps X.kw X.mg) m H ((ev C G A ρ S).bind fun x S1 => .ok [x] S1) _
    cases q : ev C G A ρ S with
    | bad => rw [q] at p0; exact p0
    | exc cc pp SS => rw [q] at p0; exact p0
    | ok d S1 =>
      rw [q] at p0
      simp only [R.bind_ok] at p0 ⊢
      intro m' H' vs l ra' rp
      obtain ⟨v, rfl, rv⟩ := rps1 rp
      cases rv with
      | loc t =>
        rename_i n1 a1 b1
        cases h1 : lstAt S1 n1 with
        | none => simp only [h1] at p0; exact p0.elim
        | some ds =>
          simp only [h1] at p0
          obtain ⟨vs, g1, _⟩ := ra'.seq t h1
          exact ⟨_, vs, rfl, g1, p0 m' H' _ l ra' (src_enum t)⟩
      | fl t hs => exact ⟨_, _, rfl, .inl (.inr ⟨_, t⟩), p0 m' H' _ l ra' (src_enumF t hs)⟩
      | _ => exact p0.elim
end
end CC
namespace CC
open PySem PySem.Spec PyProof.Rows L2
abbrev W00 : WX := fun _ _ _ _ => False
theorem wipe_wipe (σ : L2.St) (vs : List Nat) : wipe (wipe σ vs) vs = wipe σ vs := by
  suffices h : ∀ (ws : List Nat), (∀ i ∈ ws, i ∈ vs) → wipe (wipe σ ws) vs = wipe σ vs by exact h vs fun _ z => z
  intro ws
  induction ws with
  | nil => intro _; rfl
  | cons w ws ih =>
    intro hw
    show wipe ((wipe σ ws).set w none) vs = _
    rw [wipe_mem (hw w List.mem_cons_self), ih fun i z => hw i (List.mem_cons_of_mem _ z)]
theorem PTs_imp {X : Cx} {e : List Expr} {t t' : TT} (h : PTs X e t) (i : ∀ σ H Q, t' σ H Q → t σ H Q) : PTs X e t' := ⟨fun pins s σ H Q I q => h.run pins s σ H Q I (i σ H Q q)⟩
theorem Ctx.blk {X : Cx} {cb : Bool} (c : Ctx cb X) (s : Shared) (H : Hp) (scope : Scope) (cenv : PySem.Env) (fp : List Addr) : Ctx cb (X.blk s H scope cenv fp) := ⟨c.calm, c.hu, c.nd, c.g, c.nob, c.wm⟩
section
variable {X : Cx} {C : CallSem} {G : Nat → Option D} {W : WX} {a b c e : Expr} {A B D' : Xp} {pos : Pos}
theorem dts_nil : PTs X [] (tDT X C G W (.bl true)) := PTs_imp pts_nil fun σ H Q ⟨m, ρ, S, ra, re, p⟩ => Post.now (v := true) p ra rfl
theorem dts_one (h : PT X c (tDT X C G W A)) : PTs X [c] (tDT X C G W A) := pts_one h
theorem i_lc {it tg elt cond : Xp} {vs : List Nat} {σ : L2.St} {H : Hp} {Q : VK} (hsl : ∀ i ∈ tslots tg, i ∈ vs) (h : tD X C G W (.lc it tg elt cond vs) σ H Q) :
    tLc (tDi X C G W it) (gT X.kw X.mg tg) (tDT X C G W00 cond) (tD X C G W00 elt) vs σ H Q := by
  obtain ⟨m, ρ, S, ra, re, p⟩ := h
  refine ⟨m, ρ, S, ra, re, Post.imp (Post.bind p) ?_⟩
  rintro J H1 ⟨m1, src, S1, l1, ra1, sok, p1⟩ Dl hD
  let Fin : R (List D) → Prop := fun r => Post X.kw X.mg (fun c d H' => W c d σ H') (Rp X.kw X.mg) m1 H1 (r.bind fun ds S2 => mk (.lst ds) S2) Q
  let L := lcl src tg (fun ρ1 S2 => asT (ev C G cond ρ1 S2)) (fun ρ1 S2 => ev C G elt ρ1 S2) (wipeE ρ vs)
  refine ⟨fun i n H' => ∃ m' S' acc avs, Le m1 m' H1 H' ∧ RelA X.kw X.mg m' H' S' ∧ Rps X.kw X.mg m' H' acc avs ∧ H' Dl = some (.lst avs) ∧ (Dl, false) ∉ m' ∧ Fin (L n i acc S'),
    ⟨src.size S1 + 1, m1, S1, [], [], Le.new hD, ra1.new hD, .nil, upd_same, ra1.notin hD, p1⟩, ?_⟩
  rintro i n H' ⟨m', S', acc, avs, l', ra', hs', hDl, hni, fin⟩
  cases n with
  | zero => exact fin.elim
  | succ n =>
    have fin' : Fin (match src.get i S' with
      | none => .bad
      | some none => .ok acc S'
      | some (some d) => match bindT tg d (wipeE ρ vs) with
        | none => .bad
        | some ρ1 => match asT (ev C G cond ρ1 S') with
          | .ok true S1 => match ev C G elt ρ1 S1 with
            | .ok y S2 => if acc.length < sizeLine then L n (i + 1) (acc ++ [y]) S2 else .bad
            | _ => .bad
          | .ok false S1 => L n (i + 1) acc S1
          | _ => .bad) := fin
    obtain ⟨stop, go⟩ := sok m' H' S' i l'.lt ra'
    cases hg : src.get i S' with
    | none => simp only [hg] at fin'; exact fin'.elim
    | some o =>
      cases o with
      | none =>
        simp only [hg] at fin'
        refine .inl ⟨stop hg, ?_⟩
        have f2 : Post X.kw X.mg (fun c d H' => W c d σ H') (Rp X.kw X.mg) m1 H1 (mk (.lst acc) S') Q := fin'
        refine f2 (m' ++ [(Dl, false)]) H' (.ref Dl) ⟨fun n a h => ?_, l'.tup, l'.fz, l'.ex, fun a u h hn => ?_⟩ (ra'.adopt hDl hni hs') (.loc (ra'.at_new Dl))
        · have := l'.pre n a h
          rw [List.getElem?_append_left (List.getElem?_eq_some_iff.mp this).1]
          exact this
        · obtain ⟨h1, h2⟩ := l'.frame a u h hn
          refine ⟨h1, fun z => ?_⟩
          rcases List.mem_append.mp z with z | z
          · exact h2 z
          · exact ne_of_none h hD (by simpa using z)
      | some d =>
        simp only [hg] at fin'
        obtain ⟨g1, g2⟩ := go d hg
        refine .inr ⟨g1, _, fun H'' z => ⟨n, Nat.lt_succ_self n, z⟩, fun x H'' hy => ?_⟩
        obtain ⟨ly, ray, rpx⟩ := g2 x H'' hy
        cases hb : bindT tg d (wipeE ρ vs) with
        | none => simp only [hb] at fin'; exact fin'.elim
        | some ρ1 =>
          simp only [hb] at fin'
          have re0 : RelE X.kw X.mg m' H'' (wipe σ vs) (wipeE ρ vs) := (((re.mono l1).mono l').mono ly).wipe vs
          refine ⟨m', wipeE ρ vs, S', d, ρ1, ray, re0, rpx, hb, fun σ2 re2 w2 => ⟨(w2 vs hsl).trans (wipe_wipe σ vs), m', ρ1, S', ray, re2, ?_⟩⟩
          obtain ⟨hDl2, hni2⟩ := ly.frame Dl _ hDl hni
          cases hc : asT (ev C G cond ρ1 S') with
          | bad => simp only [hc] at fin'; exact fin'.elim
          | exc _ _ _ => simp only [hc] at fin'; exact fin'.elim
          | ok k S2 =>
            show Post X.kw X.mg (fun _ _ _ => False) relEq m' H'' (asT (ev C G cond ρ1 S')) _
            rw [hc]
            intro m3 H3 kk l3 ra3 hk
            have hk' : k = kk := hk
            subst hk'
            obtain ⟨hDl3, hni3⟩ := l3.frame Dl _ hDl2 hni2
            cases k with
            | false =>
              simp only [hc] at fin'
              rw [if_neg (by decide)]
              exact ⟨m3, S2, acc, avs, (l'.trans ly).trans l3, ra3, (hs'.mono ly).mono l3, hDl3, hni3, fin'⟩
            | true =>
              simp only [hc] at fin'
              rw [if_pos rfl]
              refine ⟨m3, ρ1, S2, ra3, re2.mono l3, ?_⟩
              show Post X.kw X.mg (fun _ _ _ => False) (Rp X.kw X.mg) m3 H3 (ev C G elt ρ1 S2) _
              cases he : ev C G elt ρ1 S2 with
              | bad => simp only [he] at fin'; exact fin'.elim
              | exc _ _ _ => simp only [he] at fin'; exact fin'.elim
              | ok y S3 =>
                simp only [he] at fin'
                by_cases cc : acc.length < sizeLine
                · rw [if_pos cc] at fin'
                  intro m4 H4 v l4 ra4 rv
                  obtain ⟨hDl4, hni4⟩ := l4.frame Dl _ hDl3 hni3
                  refine ⟨avs, hDl4, by rw [hs'.length]; exact cc, m4, S3, acc ++ [y], avs ++ [v], (((l'.trans ly).trans l3).trans l4).scratch hD, ra4.scratch hDl4 hni4, ?_, upd_same, hni4, fin'⟩
                  exact ((((hs'.mono ly).mono l3).mono l4).append (.cons rv .nil)).mov (Lt.scratch hDl4)
                · rw [if_neg cc] at fin'
                  exact fin'.elim
theorem de_lc {elt tg iter : Expr} {ifs : List Expr} {scope : Scope} {own : List (Str × Nat)} {it tx ex cd : Xp} (cx : Ctx true X) (hi : PI X tg iter (tDi X C G W it)) (ok : BlkOk X.N X.env.scope scope own)
    (hg : ∀ (s : Shared) (H : Hp) (L : Addr) (cl : List (Str × Addr)) (fp : List Addr), PG (X.blk s H scope (compEnvC scope cl L X.env) fp) tg (gT X.kw X.mg tx))
    (ht : ∀ (s : Shared) (H : Hp) (L : Addr) (cl : List (Str × Addr)) (fp : List Addr), PTs (X.blk s H scope (compEnvC scope cl L X.env) fp) ifs (tDT X C G W00 cd))
    (he : ∀ (s : Shared) (H : Hp) (L : Addr) (cl : List (Str × Addr)) (fp : List Addr), PE (X.blk s H scope (compEnvC scope cl L X.env) fp) elt (tD X C G W00 ex))
    (hsl : ∀ i ∈ tslots tx, i ∈ own.map (·.2)) (hs : ∀ x, foldedSetIterable iter X.env x = pure x := by intro _; rfl) :
    PE X (.ListComp elt [⟨tg, iter, ifs, 0⟩] scope pos) (tD X C G W (.lc it tx ex cd (own.map (·.2)))) :=
  PE_imp (pe_lc (cx.calm rfl) cx.nd hi ok hg ht he hs) fun σ H Q h => i_lc hsl h
end
structure FnG (P : Program) (w : World) (K : PySem.W.Frag) (mg : Str → Option Value) (base : Heap) (k : Nat) (f : Addr) (fd : FuncData) (ps : List Str) (cs : List D → Sto → R D) : Prop where
  len : ∀ ds S, cs ds S ≠ .bad → ds.length = ps.length
  run : ∀ (A : Around) (outer : List PySem.Env) (s : Shared) (H : Hp) (args : Args) (us : List Value) (vs : List V) (m : Mp) (ds : List D) (S : Sto) (Q : VK) (E : XK), A.guards = some [] → Room k A → Env0 P w K mg base A outer s H →
    BindsTo s fd args (ps.zip us) → Vals vs us → RelA ⟨K, w, none⟩ mg m H S → Rps ⟨K, w, none⟩ mg m H ds vs → Post ⟨K, w, none⟩ mg E (Rp ⟨K, w, none⟩ mg) m H (cs ds S) Q → codeAny (model P w) A (.call (.ref f) args) (CR (L2N.CX P w) outer P w H s Q E) s
theorem post_nb {K : KW} {mg : Str → Option Value} {W : XK} {α β : Type} {rel : Mp → Hp → α → β → Prop} {m : Mp} {H : Hp} {r : R α} {Q : β → Hp → Prop} (h : Post K mg W rel m H r Q) : r ≠ .bad := by
  intro z
  rw [z] at h
  exact h
theorem FnG.mono {P : Program} {w : World} {K : PySem.W.Frag} {mg : Str → Option Value} {base : Heap} {j k : Nat} {f : Addr} {fd : FuncData} {ps : List Str} {cs : List D → Sto → R D} (F : FnG P w K mg base j f fd ps cs) (h : j ≤ k) : FnG P w K mg base k f fd ps cs :=
  ⟨F.len, fun A outer s H args us vs m ds S Q E g hr => F.run A outer s H args us vs m ds S Q E g (hr.mono h)⟩
theorem fnG_of {P : Program} {w : World} {K : PySem.W.Frag} {mg : Str → Option Value} {base : Heap} {k : Nat} {f : Addr} {x qual : Str} {st : Stmt} {fd : FuncData} {N ps : List Str} {cs : List D → Sto → R D} (F : Fun K x qual st f fd) (sc : FnScope N ps (defScope st))
    (len : ∀ ds S, cs ds S ≠ .bad → ds.length = ps.length)
    (hb : ∀ (cdv : Value) (A : Around) (outer : List PySem.Env) (s : Shared) (H : Hp) (vs : List V) (m : Mp) (ds : List D) (S : Sto) (Q : VK) (E : XK), A.guards = some [] → Room k (A.deeper (envOfC qual (defScope st) s.heap.objs.size f cdv)) →
      RelA ⟨K, w, none⟩ mg m H S → Rps ⟨K, w, none⟩ mg m H ds vs → Post ⟨K, w, none⟩ mg E (Rp ⟨K, w, none⟩ mg) m H (cs ds S) Q →
      ∃ t, PSs (cxOf (L2N.CX P w) P w K mg base N qual (defScope st) f cdv A outer s H E) (defBody st) t ∧ t { nx := fun _ H' => Q .non H', rt := Q } (start N vs) H) : FnG P w K mg base (k + 1) f fd ps cs := by
  obtain ⟨oc, od, kV, doc, pm, an, cdv, ct, osl, rfl, lk, hcd⟩ := F.ex
  refine ⟨len, ?_⟩
  intro A outer s H args us vs m ds S Q E hgd room env hbind rv ra rs post
  have kin : K.In s.heap := env.mod.kin.keeps fun b o z => (env.bs b o z).1
  have nolim : s.heap.NoLimit := env.mod.nolimit.keeps fun b o z => (env.bs b o z).1
  have kinds : ∀ y ∈ ps.zip us, (defScope st).names.lookup y.1 = some .local ∨ ((defScope st).names.lookup y.1 = some .cell ∧ ((cellsFrom (s.heap.objs.size + 1) (defScope st).names []).lookup y.1).isSome = true) := by
    rintro ⟨n, v⟩ hy
    rcases sc.par n (List.of_mem_zip hy).1 with q | q
    · exact .inl q
    · exact .inr ⟨q, PySem.W.cellsFrom_some _ _ _ (.inl q)⟩
  have vlen : vs.length = ps.length := by rw [rs.length]; exact len ds S (post_nb post)
  refine codeAny_call_function room.depth (kin _ _ lk) rfl sc.co sc.gen rfl (PySem.W.codeRec_of kin hcd) (hbind _ _ _ _ ?_)
  refine wpAny_newFunctionEnv_cells sc.kind kinds ?_
  intro env1 henv s1 x1
  subst henv
  refine ⟨nolim.keeps x1.toInCall.keep, codeAny_func ?_⟩
  obtain ⟨t, ht, hq⟩ := hb cdv A outer s H vs m ds S Q E hgd (room.deeper _) ra rs post
  have inv : L2.Inv (cxOf (L2N.CX P w) P w K mg base N qual (defScope st) f cdv A outer s H E) [] (start N vs) H s1 := inv_start sc room.hd env vlen rv x1
  refine wpAny_mono (ht.run [] s1 (start N vs) H _ inv hq) ?_ (fun e s' z => z)
  intro fl s' hs
  have done : ∀ {σ' : L2.St} {H' : Hp} {v : V} {u : Value}, L2.Inv (cxOf (L2N.CX P w) P w K mg base N qual (defScope st) f cdv A outer s H E) [] σ' H' s' → RelV v u → Q v H' → CE outer P w H s Q u s' :=
    fun {σ' H' v u} J r1 q1 => ⟨v, H', J.os, J.bare, J.base, J.hok, r1, q1⟩
  cases fl with
  | next =>
    obtain ⟨_, _, J, q⟩ := hs
    exact done (v := V.non) (u := Value.none) J rfl q
  | ret u =>
    obtain ⟨_, _, _, J, r1, q⟩ := hs
    exact done J r1 q
  | cont => obtain ⟨_, _, _, q⟩ := hs; exact False.elim q
  | brk => obtain ⟨_, _, _, q⟩ := hs; exact False.elim q
theorem kw_calm {X : Cx} {k : Nat} (hr : Room k X.A) : X.kw = ⟨X.K, X.w, none⟩ := by
  show (⟨X.K, X.w, hxA X.A⟩ : KW) = _
  rw [hxA_none hr.hd]
def KB (fd : FuncData) (ps : List Str) (q : Nat × List Str × List Nat) : Prop := ∀ (s : Shared) (us ws zs : List Value), us.length = q.1 → ws.length = q.2.1.length → permL (us ++ ws) q.2.2 = some zs → BindsTo s fd ⟨us, q.2.1.zip ws⟩ (ps.zip zs)
structure FnAt (P : Program) (w : World) (K : PySem.W.Frag) (mg : Str → Option Value) (base : Heap) (k : Nat) (x : Str) (np : Nat) (kw : List (Nat × List Str × List Nat)) (cs : List D → Sto → R D) : Prop where
  ex : ∃ (f : Addr) (fd : FuncData) (ps : List Str), mg x = some (.ref f) ∧ PySem.W.keepIn K (.ref f) = true ∧ ps.length = np ∧ Binds K fd ps [] ∧ (∀ q ∈ kw, KB fd ps q) ∧ FnG P w K mg base k f fd ps cs
structure Calls (P : Program) (w : World) (K : PySem.W.Frag) (mg : Str → Option Value) (base : Heap) (k : Nat) (nm : List Str) (kwt : Nat → List (Nat × List Str × List Nat)) (T : Nat → Option Fd) (C : CallSem) : Prop where
  fn : ∀ i x fd, nm[i]? = some x → T i = some fd → FnAt P w K mg base k x fd.np (kwt i) (C i)
section
variable {X : Cx} {C : CallSem} {G : Nat → Option D} {W : WX} {a b c e : Expr} {A B D' : Xp} {pos : Pos} {k : Nat}
theorem run_g {f : Addr} {fd : FuncData} {ps : List Str} {cs : List D → Sto → R D} {pins : List (Addr × Obj)} {σ : L2.St} {H : Hp} {s : Shared} {Q : VK} {us : List Value} {vs : List V} {m : Mp} {ds : List D} {S : Sto}
    (F : FnG X.prog X.w X.K X.mg X.base k f fd ps cs) {cb : Bool} (cx : Ctx cb X) (hr : Room k X.A) (hb : Binds X.K fd ps []) (tk : L2N.Takes X W) (I : L2.Inv X pins σ H s) (r : Vals vs us) (ra : RelA X.kw X.mg m H S) (rs : Rps X.kw X.mg m H ds vs)
    (h : Post X.kw X.mg (fun c d H' => W c d σ H') (Rp X.kw X.mg) m H (cs ds S) Q) : wpAny (model X.prog X.w) X.A (call (.ref f) us) (EP X pins σ Q) X.xe s := by
  rw [kw_calm hr] at ra rs h
  have hl : us.length = ps.length := by rw [← r.length, rs.length]; exact F.len ds S (post_nb h)
  have hbs : BindsTo s fd ⟨us, []⟩ (ps.zip us) := by
    have z := hb s us I.kIn (by simpa using hl)
    rw [List.append_nil] at z
    exact z
  refine wpAny_call (codeAny_mono (F.run X.A X.stack s H ⟨us, []⟩ us vs m ds S Q _ cx.g hr I.env0 hbs r ra rs h) ?_)
  intro res s' hq
  cases res with
  | error er => exact L2N.passAt tk σ pins H s er s' I hq
  | ok fl =>
    cases fl with
    | ret u => exact I.after hq
    | next => exact False.elim hq
    | brk => exact False.elim hq
    | cont => exact False.elim hq
theorem de_call {i : Nat} {x : Str} {fd : Fd} {nm : List Str} {kwt : Nat → List (Nat × List Str × List Nat)} {T : Nat → Option Fd} {p : Pos} {es : List Expr} (cc : Calls X.prog X.w X.K X.mg X.base k nm kwt T C) (hx : nm[i]? = some x) (hT : T i = some fd) {cb : Bool} (cx : Ctx cb X) (hr : Room k X.A) (tk : L2N.Takes X W) (hg : Gl X x) (ha : PA X (e :: es) (tDs X C G W A))
    (hdb : (x == ("__debug__" : Str)) = false := by decide) (he : starEach (e :: es) X.env = (false, eval e X.env) :: starEach es X.env := by rfl) (hpl : (backTo pos (starEach es X.env)).any (·.1) = false := by rfl) :
    PE X (.Call (.Name x p) (e :: es) [] pos) (tD X C G W (.call i A)) := by
  obtain ⟨f, fd, ps, hm, hk, _, hb, _, F⟩ := (cc.fn i x fd hx hT).ex
  refine ⟨fun pins s σ H Q I ⟨m, ρ, S, ra, re, q⟩ => ?_⟩
  refine wpAny_Call_Name_kw (ld_glob I hg hm ?_ hdb)
  refine PySem.W.callWith_K (h₀ := X.base) I.ok.mod.kin hk (thn (ha.run pos pins s σ H _ I ⟨m, ρ, S, ra, re, Post.bind q⟩) fun us s1 hz => ?_) he hpl
  obtain ⟨vs, H1, I1, r, m1, ds, S1, l1, ra1, rs, q1⟩ := hz
  exact ⟨I1.kIn, run_g F cx hr hb tk I1 r ra1 rs q1⟩
theorem rps_perm {K : KW} {mg : Str → Option Value} {m : Mp} {H : Hp} {ds : List D} {vs : List V} (h : Rps K mg m H ds vs) : ∀ {perm : List Nat} {es : List D}, permL ds perm = some es → ∃ ws, permL vs perm = some ws ∧ Rps K mg m H es ws
  | [], es, e => by
    cases e
    exact ⟨[], rfl, .nil⟩
  | p :: ps, es, e => by
    have e' : ((ds[p]?).bind fun v => (permL ds ps).map (v :: ·)) = some es := e
    cases q : ds[p]? with
    | none => rw [q] at e'; cases e'
    | some d =>
      rw [q] at e'
      cases q2 : permL ds ps with
      | none => rw [q2] at e'; cases e'
      | some r =>
        rw [q2] at e'
        cases e'
        obtain ⟨v, h1, h2⟩ := h.get q
        obtain ⟨ws, h3, h4⟩ := rps_perm h q2
        refine ⟨v :: ws, ?_, .cons h2 h4⟩
        show ((vs[p]?).bind fun v => (permL vs ps).map (v :: ·)) = _
        rw [h1, h3]
        rfl
theorem vals_perm {vs : List V} {us : List Value} (h : Vals vs us) : ∀ {perm : List Nat} {ws : List V}, permL vs perm = some ws → ∃ zs, permL us perm = some zs ∧ Vals ws zs
  | [], es, e => by
    cases e
    exact ⟨[], rfl, .nil⟩
  | p :: ps, es, e => by
    have e' : ((vs[p]?).bind fun v => (permL vs ps).map (v :: ·)) = some es := e
    cases q : vs[p]? with
    | none => rw [q] at e'; cases e'
    | some d =>
      rw [q] at e'
      cases q2 : permL vs ps with
      | none => rw [q2] at e'; cases e'
      | some r =>
        rw [q2] at e'
        cases e'
        obtain ⟨v, h1, h2⟩ := Vals.get h q
        obtain ⟨ws, h3, h4⟩ := vals_perm h q2
        refine ⟨v :: ws, ?_, .cons h2 h4⟩
        show ((us[p]?).bind fun v => (permL us ps).map (v :: ·)) = _
        rw [h1, h3]
        rfl
theorem evs_len {C : CallSem} {G : Nat → Option D} : ∀ {A : Xp} {ρ : Env} {S S' : Sto} {ds : List D}, evs C G A ρ S = .ok ds S' → ds.length = lenX A
  | .nil, ρ, S, S', ds, h => by cases h; rfl
  | .cons a b, ρ, S, S', ds, h => by
    have h' : ((ev C G a ρ S).bind fun x S1 => (evs C G b ρ S1).bind fun xs S2 => R.ok (x :: xs) S2) = .ok ds S' := h
    cases q : ev C G a ρ S with
    | bad => rw [q] at h'; cases h'
    | exc _ _ _ => rw [q] at h'; cases h'
    | ok x S1 =>
      rw [q] at h'
      simp only [R.bind_ok] at h'
      cases q2 : evs C G b ρ S1 with
      | bad => rw [q2] at h'; cases h'
      | exc _ _ _ => rw [q2] at h'; cases h'
      | ok xs S2 =>
        rw [q2] at h'
        cases h'
        show xs.length + 1 = lenX b + 1
        rw [evs_len q2]
  | .var _, _, _, _, _, h => by cases h
  | .glo _, _, _, _, _, h => by cases h
  | .non, _, _, _, _, h => by cases h
  | .bl _, _, _, _, _, h => by cases h
  | .int _, _, _, _, _, h => by cases h
  | .str _, _, _, _, _, h => by cases h
  | .tyc _, _, _, _, _, h => by cases h
  | .bin _ _ _, _, _, _, _, h => by cases h
  | .neg _, _, _, _, _, h => by cases h
  | .nt _, _, _, _, _, h => by cases h
  | .and _ _, _, _, _, _, h => by cases h
  | .or _ _, _, _, _, _, h => by cases h
  | .cmp _ _ _, _, _, _, _, h => by cases h
  | .cmp2 _ _ _ _ _, _, _, _, _, h => by cases h
  | .ife _ _ _, _, _, _, _, h => by cases h
  | .call _ _, _, _, _, _, h => by cases h
  | .callk _ _ _ _, _, _, _, _, h => by cases h
  | .bi _ _, _, _, _, _, h => by cases h
  | .mt _ _ _, _, _, _, _, h => by cases h
  | .ix _ _, _, _, _, _, h => by cases h
  | .gdx _ _, _, _, _, _, h => by cases h
  | .dnew, _, _, _, _, h => by cases h
  | .dget _ _ _, _, _, _, _, h => by cases h
  | .dsetd _ _ _, _, _, _, _, h => by cases h
  | .sumv _, _, _, _, _, h => by cases h
  | .lset _, _, _, _, _, h => by cases h
  | .lix _ _, _, _, _, _, h => by cases h
  | .dit _, _, _, _, _, h => by cases h
  | .dks _, _, _, _, _, h => by cases h
  | .dvs _, _, _, _, _, h => by cases h
  | .sl _ _ _, _, _, _, _, h => by cases h
  | .rev _, _, _, _, _, h => by cases h
  | .tup _, _, _, _, _, h => by cases h
  | .lst _, _, _, _, _, h => by cases h
  | .lc _ _ _ _ _, _, _, _, _, h => by cases h
  | .itr _, _, _, _, _, h => by cases h
  | .rng1 _, _, _, _, _, h => by cases h
  | .rng2 _ _, _, _, _, _, h => by cases h
  | .zip2 _ _, _, _, _, _, h => by cases h
  | .enum _, _, _, _, _, h => by cases h
theorem run_gk {f : Addr} {fd : FuncData} {ps : List Str} {cs : List D → Sto → R D} {pins : List (Addr × Obj)} {σ : L2.St} {H : Hp} {s : Shared} {Q : VK} {us ws zs : List Value} {vs : List V} {m : Mp} {ds : List D} {S : Sto} {q : Nat × List Str × List Nat}
    (F : FnG X.prog X.w X.K X.mg X.base k f fd ps cs) {cb : Bool} (cx : Ctx cb X) (hr : Room k X.A) (hb : KB fd ps q) (tk : L2N.Takes X W) (I : L2.Inv X pins σ H s) (h1 : us.length = q.1) (h2 : ws.length = q.2.1.length) (h3 : permL (us ++ ws) q.2.2 = some zs)
    (r : Vals vs zs) (ra : RelA X.kw X.mg m H S) (rs : Rps X.kw X.mg m H ds vs)
    (h : Post X.kw X.mg (fun c d H' => W c d σ H') (Rp X.kw X.mg) m H (cs ds S) Q) : wpAny (model X.prog X.w) X.A (call (.ref f) us (q.2.1.zip ws)) (EP X pins σ Q) X.xe s := by
  rw [kw_calm hr] at ra rs h
  refine wpAny_call (codeAny_mono (F.run X.A X.stack s H ⟨us, q.2.1.zip ws⟩ zs vs m ds S Q _ cx.g hr I.env0 (hb s us ws zs h1 h2 h3) r ra rs h) ?_)
  intro res s' hq
  cases res with
  | error er => exact L2N.passAt tk σ pins H s er s' I hq
  | ok fl =>
    cases fl with
    | ret u => exact I.after hq
    | next => exact False.elim hq
    | brk => exact False.elim hq
    | cont => exact False.elim hq
theorem i_callk {i : Nat} {perm : List Nat} {σ : L2.St} {H : Hp} {Q : VK} (h : tD X C G W (.callk i A B perm) σ H Q) :
    tDs X C G W A σ H fun vs H1 => tDs X C G W B σ H1 fun ws H2 => ∃ m ds es fs S, vs.length = lenX A ∧ ws.length = lenX B ∧ RelA X.kw X.mg m H2 S ∧ Rps X.kw X.mg m H2 ds vs ∧ Rps X.kw X.mg m H2 es ws ∧ permL (ds ++ es) perm = some fs ∧
      Post X.kw X.mg (fun c d H' => W c d σ H') (Rp X.kw X.mg) m H2 (C i fs S) Q := by
  obtain ⟨m, ρ, S, ra, re, p⟩ := h
  refine ⟨m, ρ, S, ra, re, ?_⟩
  have p0 : Post X.kw X.mg (fun c d H' => W c d σ H') (Rp X.kw X.mg) m H ((evs C G A ρ S).bind fun xs S1 => (evs C G B ρ S1).bind fun ys S2 => match permL (xs ++ ys) perm with
    | some zs => C i zs S2
    | none => .bad) Q := p
  cases q : evs C G A ρ S with
  | bad => rw [q] at p0; exact p0.elim
  | exc c pp S1 => rw [q] at p0; exact p0
  | ok ds S1 =>
    rw [q] at p0
    simp only [R.bind_ok] at p0
    intro m1 H1 vs l1 ra1 r1
    refine ⟨m1, ρ, S1, ra1, re.mono l1, ?_⟩
    have p1 := Post.move l1 p0
    cases q2 : evs C G B ρ S1 with
    | bad => rw [q2] at p1; exact p1.elim
    | exc c pp S2 => rw [q2] at p1; exact p1
    | ok es S2 =>
      rw [q2] at p1
      simp only [R.bind_ok] at p1
      intro m2 H2 ws l2 ra2 r2
      cases q3 : permL (ds ++ es) perm with
      | none => simp only [q3] at p1; exact p1.elim
      | some fs =>
        simp only [q3] at p1
        exact ⟨m2, ds, es, fs, S2, by rw [r1.length, evs_len q], by rw [r2.length, evs_len q2], ra2, r1.mono l2, r2, q3, Post.move l2 p1⟩
theorem de_callk0 {i j : Nat} {x : Str} {fd : Fd} {nm : List Str} {kwt : Nat → List (Nat × List Str × List Nat)} {T : Nat → Option Fd} {p : Pos} {kws : List Keyword} {q : Nat × List Str × List Nat} (cc : Calls X.prog X.w X.K X.mg X.base k nm kwt T C) (hq : (kwt i)[j]? = some q)
    (hx : nm[i]? = some x) (hT : T i = some fd) {cb : Bool} (cx : Ctx cb X) (hr : Room k X.A) (tk : L2N.Takes X W) (hg : Gl X x) (hkw : PK X kws (tDs X C G W B)) (h1 : q.1 = 0 := by rfl) (h2 : lenX B = q.2.1.length := by rfl)
    (hall : (backToKw pos (keywordEach kws X.env)).all (·.1.isSome) = true := by rfl) (hks : (backToKw pos (keywordEach kws X.env)).filterMap (·.1) = q.2.1 := by rfl)
    (hdb : (x == ("__debug__" : Str)) = false := by decide) (hpl : ((backTo pos (starEach [] X.env)).any (·.1) || (backToKw pos (keywordEach kws X.env)).any (·.1.isNone)) = false := by rfl) :
    PE X (.Call (.Name x p) [] kws pos) (tD X C G W (.callk i .nil B q.2.2)) := by
  obtain ⟨f, fd, ps, hm, hk, _, hb, hkb, F⟩ := (cc.fn i x fd hx hT).ex
  refine ⟨fun pins s σ H Q I h => ?_⟩
  refine wpAny_Call_Name_kw (ld_glob I hg hm ?_ hdb)
  obtain ⟨m0, ρ0, S0, ra0, re0, p0⟩ := i_callk h
  have q1 := Post.now (v := []) (show Post X.kw X.mg (fun c d H' => W c d σ H') (Rps X.kw X.mg) m0 H (.ok [] S0) _ from p0) ra0 .nil
  refine PySem.W.callWith_KW0 (h₀ := X.base) I.ok.mod.kin hk hall (thn (hkw.run pos pins s σ H _ I q1) fun ws s2 ⟨zs, H2, I2, rz, m, ds, es', fs, S, e1, e2, ra, r1, r2, hp, post⟩ => ⟨I2.kIn, ?_⟩) hpl
  rw [hks]
  obtain ⟨ys, hy, ry⟩ := rps_perm (r1.append r2) hp
  obtain ⟨xs, hxs, rx⟩ := vals_perm (Vals.append (.nil : Vals [] []) rz) hy
  exact run_gk (us := []) F cx hr (hkb q (List.mem_of_getElem? hq)) tk I2 h1.symm (by rw [← rz.length, e2, h2]) hxs rx ra ry post
def PostS (K : KW) (mg : Str → Option Value) (W : WX) (m : Mp) (H : Hp) (r : Rs) (D' : Ends) : Prop := match r with
  | .nx ρ S => ∀ m' H' σ, Le m m' H H' → RelA K mg m' H' S → RelE K mg m' H' σ ρ → D'.nx σ H'
  | .bk ρ S => ∀ m' H' σ, Le m m' H H' → RelA K mg m' H' S → RelE K mg m' H' σ ρ → D'.bk σ H'
  | .ct ρ S => ∀ m' H' σ, Le m m' H H' → RelA K mg m' H' S → RelE K mg m' H' σ ρ → D'.ct σ H'
  | .rt d S => ∀ m' H' v, Le m m' H H' → RelA K mg m' H' S → Rp K mg m' H' d v → D'.rt v H'
  | .exc c p ρ S => ∀ m' H' σ cls dd, Le m m' H H' → RelA K mg m' H' S → RelE K mg m' H' σ ρ → RpX K mg m' H' c p cls dd → W cls dd σ H'
  | .bad => False
theorem PostS.move {K : KW} {mg : Str → Option Value} {W : WX} {m m1 : Mp} {H H1 : Hp} {r : Rs} {D' : Ends} (l : Le m m1 H H1) (h : PostS K mg W m H r D') : PostS K mg W m1 H1 r D' := by
  cases r with
  | bad => exact h
  | rt d S => exact fun m' H' v l' => h m' H' v (l.trans l')
  | exc c p ρ S => exact fun m' H' σ cls dd l' => h m' H' σ cls dd (l.trans l')
  | nx ρ S => exact fun m' H' σ l' => h m' H' σ (l.trans l')
  | bk ρ S => exact fun m' H' σ l' => h m' H' σ (l.trans l')
  | ct ρ S => exact fun m' H' σ l' => h m' H' σ (l.trans l')
theorem PostS.ofR {α β : Type} {K : KW} {mg : Str → Option Value} {W : WX} {m : Mp} {H : Hp} {σ : L2.St} {ρ : Env} {r : R α} {f : α → Sto → Rs} {D' : Ends} {rel : Mp → Hp → α → β → Prop} (re : RelE K mg m H σ ρ) (h : PostS K mg W m H (CC.ofR r ρ f) D') :
    Post K mg (fun c d H' => W c d σ H') rel m H r (fun v H1 => ∃ m1 d S1, Le m m1 H H1 ∧ RelA K mg m1 H1 S1 ∧ rel m1 H1 d v ∧ PostS K mg W m1 H1 (f d S1) D') := by
  cases r with
  | bad => exact h
  | exc c p S => exact fun m' H' cls dd l ra rx => h m' H' σ cls dd l ra (re.mono l) rx
  | ok d S => exact fun m' H' v l ra rv => ⟨m', d, S, l, ra, rv, PostS.move l h⟩
def tS (X : Cx) (n : Nat) (C : CallSem) (G : Nat → Option D) (W : WX) (s : Sx) : TS := fun D' σ H => ∃ m ρ S, RelA X.kw X.mg m H S ∧ RelE X.kw X.mg m H σ ρ ∧ PostS X.kw X.mg W m H (run n C G s ρ S) D'
variable {n : Nat}
theorem ds_expr (he : PE X e (tD X C G W A)) (hs : swapsWith e none pos.line X.env = pure false := by rfl) : PS X (.Expr e pos) (tS X n C G W (.ex A)) :=
  PS_imp (ps_expr he hs) fun D' σ H ⟨m, ρ, S, ra, re, p⟩ => ⟨m, ρ, S, ra, re, Post.imp (PostS.ofR re p) fun v H1 ⟨m1, d, S1, l1, ra1, r1, p1⟩ => p1 m1 H1 σ (Le.refl _ _) ra1 (re.mono l1)⟩
theorem ds_ret (he : PE X e (tD X C G W A)) : PS X (.Return (some e) pos) (tS X n C G W (.ret A)) :=
  PS_imp (ps_ret he) fun D' σ H ⟨m, ρ, S, ra, re, p⟩ => ⟨m, ρ, S, ra, re, Post.imp (PostS.ofR re p) fun v H1 ⟨m1, d, S1, l1, ra1, r1, p1⟩ => p1 m1 H1 v (Le.refl _ _) ra1 r1⟩
theorem ds_if {s1 s2 : List Stmt} {A1 A2 : Sx} (hc : PT X c (tDT X C G W A)) (h1 : PSs X s1 (tS X n C G W A1)) (h2 : PSs X s2 (tS X n C G W A2)) : PS X (.If c s1 s2 pos) (tS X n C G W (.iff A A1 A2)) :=
  PS_imp (ps_if hc h1 h2) fun D' σ H ⟨m, ρ, S, ra, re, p⟩ => ⟨m, ρ, S, ra, re, Post.imp (PostS.ofR (rel := relEq) re p) fun k H1 ⟨m1, d, S1, l1, ra1, r1, p1⟩ => by
    have r1' : d = k := r1
    subst r1'
    cases d with
    | true => exact ⟨m1, ρ, S1, ra1, re.mono l1, p1⟩
    | false => exact ⟨m1, ρ, S1, ra1, re.mono l1, p1⟩⟩
theorem dss_nil : PSs X [] (tS X n C G W .nil) := PSs_imp pss_nil fun D' σ H ⟨m, ρ, S, ra, re, p⟩ => p m H σ (Le.refl _ _) ra re
theorem dss_cons {st : Stmt} {r : List Stmt} {A1 A2 : Sx} (h1 : PS X st (tS X n C G W A1)) (h2 : PSs X r (tS X n C G W A2)) : PSs X (st :: r) (tS X n C G W (.cons A1 A2)) :=
  PSs_imp (pss_cons h1 h2) fun D' σ H ⟨m, ρ, S, ra, re, p⟩ => ⟨m, ρ, S, ra, re, by
    have p0 : PostS X.kw X.mg W m H (match run n C G A1 ρ S with
      | .nx ρ1 S1 => run n C G A2 ρ1 S1
      | r => r) D' := p
    cases q : run n C G A1 ρ S with
    | nx ρ1 S1 =>
      rw [q] at p0
      exact fun m' H' σ' l ra' re' => ⟨m', ρ1, S1, ra', re', PostS.move l p0⟩
    | bk ρ1 S1 => rw [q] at p0; exact p0
    | ct ρ1 S1 => rw [q] at p0; exact p0
    | rt d S1 => rw [q] at p0; exact p0
    | exc c pp ρ1 S1 => rw [q] at p0; exact p0
    | bad => rw [q] at p0; exact p0⟩
def gU (X : Cx) (C : CallSem) (G : Nat → Option D) (W : WX) (t : Xp) : TG := fun v σ H Q => ∃ m ρ S d, RelA X.kw X.mg m H S ∧ RelE X.kw X.mg m H σ ρ ∧ Rp X.kw X.mg m H d v ∧ PostS X.kw X.mg W m H (setT C G t d ρ S) { nx := Q, rt := fun _ _ => False }
def notIx : Xp → Bool
  | .ix _ _ => false
  | .sl _ _ _ => false
  | _ => true
theorem setT_bind {t : Xp} {d : D} {ρ : Env} {S : Sto} (h : notIx t = true) : setT C G t d ρ S = match bindT t d ρ with
    | some ρ1 => .nx ρ1 S
    | none => .bad := by
  cases t <;> first | rfl | cases h
theorem dgu_bind {tg : Expr} {t : Xp} (h : PG X tg (gT X.kw X.mg t)) (hn : notIx t = true := by rfl) : PG X tg (gU X C G W t) :=
  PG_imp h fun v σ H Q ⟨m, ρ, S, d, ra, re, r, p⟩ => by
    rw [setT_bind hn] at p
    cases q : bindT t d ρ with
    | none => rw [q] at p; exact p.elim
    | some ρ1 =>
      rw [q] at p
      exact ⟨m, ρ, S, d, ρ1, ra, re, r, q, fun σ' re' _ => p m H σ' (Le.refl _ _) ra re'⟩
theorem dgu_ix {o i : Expr} {cb : Bool} (cx : Ctx cb X) (ho : PE X o (tD X C G W A)) (hi : PE X i (tD X C G W B))
    (ha : ∀ v, assign (.Subscript o i pos) X.env v = (do
      let ov ← holding [v] (eval o X.env)
      let iv ← holding [v, ov] (eval i X.env)
      standAt pos
      holding [v, ov, iv] (setItem ov iv v)
      release [v, ov, iv] []) := by intro _; rfl) : PG X (.Subscript o i pos) (gU X C G W (.ix A B)) :=
  PG_imp (pg_sub ho hi (set_any cx) ha) fun v σ H Q ⟨m, ρ, S, d, ra, re, r, p⟩ => by
    have p0 : PostS X.kw X.mg W m H (CC.ofR (ev C G A ρ S) ρ fun x S1 => CC.ofR (ev C G B ρ S1) ρ fun y S2 => match setIx x y d S2 with
      | some S3 => .nx ρ S3
      | none => .bad) { nx := Q, rt := fun _ _ => False } := p
    refine ⟨m, ρ, S, ra, re, Post.imp (PostS.ofR re p0) fun x H1 ⟨m1, d1, S1, l1, ra1, r1, p1⟩ => ?_⟩
    refine ⟨m1, ρ, S1, ra1, re.mono l1, Post.imp (PostS.ofR (re.mono l1) p1) fun y H2 ⟨m2, d2, S2, l2, ra2, r2, p2⟩ => ?_⟩
    cases q : setIx d1 d2 d S2 with
    | none => simp only [q] at p2; exact p2.elim
    | some S3 =>
      simp only [q] at p2
      exact ⟨m2, S2, d1, d2, d, S3, ra2, r1.mono l2, r2, (r.mono l1).mono l2, q, fun H' l ra' => p2 m2 H' σ l ra' (((re.mono l1).mono l2).mono l)⟩
theorem dgu_sl {o : Expr} {lo hi : Option Expr} {p2 : Pos} (ho : PE X o (tD X C G W A)) (hl : PO X lo (tDp X C G W B)) (hh : PO X hi (tDp X C G W D'))
    (ha : ∀ v, assign (.Subscript o (.Slice lo hi none p2) pos) X.env v = (do
      let ov ← holding [v] (eval o X.env)
      let iv ← holding [v, ov] (eval (.Slice lo hi none p2) X.env)
      standAt pos
      holding [v, ov, iv] (setItem ov iv v)
      release [iv, v, ov] []) := by intro _; rfl) : PG X (.Subscript o (.Slice lo hi none p2) pos) (gU X C G W (.sl A B D')) :=
  PG_imp (SS.pg_ssl ho hl hh ha) fun v σ H Q ⟨m, ρ, S, d, ra, re, r, p⟩ => by
    have p0 : PostS X.kw X.mg W m H (CC.ofR (ev C G A ρ S) ρ fun x S1 => CC.ofR (evp C G B ρ S1) ρ fun a S2 => CC.ofR (evp C G D' ρ S2) ρ fun b S3 => match setSl x a b d S3 with
      | some S4 => .nx ρ S4
      | none => .bad) { nx := Q, rt := fun _ _ => False } := p
    refine ⟨m, ρ, S, ra, re, Post.imp (PostS.ofR re p0) fun x H1 ⟨m1, d1, S1, l1, ra1, r1, p1⟩ => ?_⟩
    refine ⟨m1, ρ, S1, ra1, re.mono l1, Post.imp (PostS.ofR (rel := relEq) (re.mono l1) p1) fun oa H2 ⟨m2, oa', S2, l2, ra2, r2, p2⟩ => ?_⟩
    have r2' : oa' = oa := r2
    subst r2'
    refine ⟨m2, ρ, S2, ra2, (re.mono l1).mono l2, Post.imp (PostS.ofR (rel := relEq) ((re.mono l1).mono l2) p2) fun ob H3 ⟨m3, ob', S3, l3, ra3, r3, p3⟩ => ?_⟩
    have r3' : ob' = ob := r3
    subst r3'
    have re3 := ((re.mono l1).mono l2).mono l3
    have rd1 := (r1.mono l2).mono l3
    have rd := ((r.mono l1).mono l2).mono l3
    cases q : setSl d1 oa' ob' d S3 with
    | none => simp only [q] at p3; exact p3.elim
    | some S4 =>
      simp only [q] at p3
      cases rd1 with
      | @loc n a b1 t1 =>
        cases rd with
        | @loc k c b2 t2 =>
          have q' : (match S3[n]?, S3[k]? with
            | some (.lst ds), some (.lst es) => if n ≠ k ∧ ds.length + es.length ≤ sizeLine then some (S3.set n (.lst (putSl ds es oa' ob'))) else none
            | _, _ => none) = some S4 := q
          cases hn : S3[n]? with
          | none => simp only [hn] at q'; cases q'
          | some so =>
            cases hk : S3[k]? with
            | none => simp only [hn, hk] at q'; cases so <;> cases q'
            | some so2 =>
              simp only [hn, hk] at q'
              cases so with
              | lst ds =>
                cases so2 with
                | lst es =>
                  have q2 : (if n ≠ k ∧ ds.length + es.length ≤ sizeLine then some (S3.set n (.lst (putSl ds es oa' ob'))) else none) = some S4 := q'
                  by_cases hc : n ≠ k ∧ ds.length + es.length ≤ sizeLine
                  · rw [if_pos hc] at q2
                    cases q2
                    obtain ⟨vs, h1, h2⟩ := ra3.lst t1 hn
                    obtain ⟨ws, h3, h4⟩ := ra3.lst t2 hk
                    have hb1 : b1 = false := by
                      obtain ⟨_, z, _⟩ := ra3.at_ n (a, b1) _ t1 hn
                      exact z
                    have hb2 : b2 = false := by
                      obtain ⟨_, z, _⟩ := ra3.at_ k (c, b2) _ t2 hk
                      exact z
                    have hac : a ≠ c := by
                      intro e
                      subst e hb1 hb2
                      exact hc.1 (ra3.nd n k a t1 t2)
                    refine ⟨a, vs, c, ws, rfl, h1, rfl, h3, hac, by rw [h2.length, h4.length]; exact hc.2, ?_⟩
                    rw [h2.length]
                    refine p3 m3 _ σ (Le.write ra3 t1 hn h1) (ra3.write t1 hn h1 ?_) (re3.mono (Le.write ra3 t1 hn h1))
                    unfold putSl
                    exact Rps.append (Rps.append (Rps.take _ h2) h4) (Rps.drop _ h2)
                  · rw [if_neg hc] at q2
                    cases q2
                | _ => cases q'
              | _ => cases so2 <;> cases q'
        | _ => cases q
      | _ => cases q
theorem ds_asg {tg : Expr} {t : Xp} (he : PE X e (tD X C G W A)) (hg : PG X tg (gU X C G W t)) (hs : swapsWithSole [tg] e pos.line X.env = pure false := by rfl) (hw : swappedStores [tg] e X.env = pure none := by rfl)
    (h1 : (assignEach [tg] X.env).map (·.2) = [assign tg X.env] := by rfl) : PS X (.Assign [tg] e pos) (tS X n C G W (.asg t A)) :=
  PS_imp (ps_asg he hg hs hw h1) fun D' σ H ⟨m, ρ, S, ra, re, p⟩ => ⟨m, ρ, S, ra, re, Post.imp (PostS.ofR re p) fun v H1 ⟨m1, d, S1, l1, ra1, r1, p1⟩ => ⟨m1, ρ, S1, d, ra1, re.mono l1, r1, by
    have key : ∀ ρ' S', setT C G t d ρ S1 ≠ .bk ρ' S' ∧ setT C G t d ρ S1 ≠ .ct ρ' S' ∧ ∀ d', setT C G t d ρ S1 ≠ .rt d' S' := by
      intro ρ' S'
      cases t with
      | ix o i =>
        show CC.ofR (ev C G o ρ S1) ρ _ ≠ _ ∧ CC.ofR (ev C G o ρ S1) ρ _ ≠ _ ∧ ∀ d', CC.ofR (ev C G o ρ S1) ρ _ ≠ _
        cases ev C G o ρ S1 with
        | bad => exact ⟨(fun z => nomatch z), (fun z => nomatch z), fun _ z => nomatch z⟩
        | exc _ _ _ => exact ⟨(fun z => nomatch z), (fun z => nomatch z), fun _ z => nomatch z⟩
        | ok x S2 =>
          simp only [ofR_ok]
          cases ev C G i ρ S2 with
          | bad => exact ⟨(fun z => nomatch z), (fun z => nomatch z), fun _ z => nomatch z⟩
          | exc _ _ _ => exact ⟨(fun z => nomatch z), (fun z => nomatch z), fun _ z => nomatch z⟩
          | ok y S3 =>
            simp only [ofR_ok]
            cases setIx x y d S3 with
            | none => exact ⟨(fun z => nomatch z), (fun z => nomatch z), fun _ z => nomatch z⟩
            | some S4 => exact ⟨(fun z => nomatch z), (fun z => nomatch z), fun _ z => nomatch z⟩
      | sl o l h =>
        show CC.ofR (ev C G o ρ S1) ρ _ ≠ _ ∧ CC.ofR (ev C G o ρ S1) ρ _ ≠ _ ∧ ∀ d', CC.ofR (ev C G o ρ S1) ρ _ ≠ _
        cases ev C G o ρ S1 with
        | bad => exact ⟨(fun z => nomatch z), (fun z => nomatch z), fun _ z => nomatch z⟩
        | exc _ _ _ => exact ⟨(fun z => nomatch z), (fun z => nomatch z), fun _ z => nomatch z⟩
        | ok x S2 =>
          simp only [ofR_ok]
          cases evp C G l ρ S2 with
          | bad => exact ⟨(fun z => nomatch z), (fun z => nomatch z), fun _ z => nomatch z⟩
          | exc _ _ _ => exact ⟨(fun z => nomatch z), (fun z => nomatch z), fun _ z => nomatch z⟩
          | ok y S3 =>
            simp only [ofR_ok]
            cases evp C G h ρ S3 with
            | bad => exact ⟨(fun z => nomatch z), (fun z => nomatch z), fun _ z => nomatch z⟩
            | exc _ _ _ => exact ⟨(fun z => nomatch z), (fun z => nomatch z), fun _ z => nomatch z⟩
            | ok z S4 =>
              simp only [ofR_ok]
              cases setSl x y z d S4 with
              | none => exact ⟨(fun z => nomatch z), (fun z => nomatch z), fun _ z => nomatch z⟩
              | some S5 => exact ⟨(fun z => nomatch z), (fun z => nomatch z), fun _ z => nomatch z⟩
      | _ =>
        rw [setT_bind rfl]
        cases bindT _ d ρ with
        | none => exact ⟨(fun z => nomatch z), (fun z => nomatch z), fun _ z => nomatch z⟩
        | some S4 => exact ⟨(fun z => nomatch z), (fun z => nomatch z), fun _ z => nomatch z⟩
    cases q : setT C G t d ρ S1 with
    | bad => rw [q] at p1; exact p1
    | nx ρ' S' => rw [q] at p1; exact p1
    | exc c pp ρ' S' => rw [q] at p1; exact p1
    | bk ρ' S' => exact absurd q (key ρ' S').1
    | ct ρ' S' => exact absurd q (key ρ' S').2.1
    | rt d' S' => exact absurd q ((key ρ S').2.2 d')⟩⟩
theorem ds_par2 {i j : Nat} {x y : Str} {px py pt : Pos} {kt k2 pt2} (hc : X.calm = true) (hN : X.N.Nodup) (hi : X.N[i]? = some x) (hj : X.N[j]? = some y) (hij : i ≠ j)
    (hx : X.env.scope.names.lookup x = some .local) (hy : X.env.scope.names.lookup y = some .local) (ha : PA X [a, b] (tDs X C G W A))
    (hw : swappedStores [.Tuple [.Name x px, .Name y py] kt pt] (.Tuple [a, b] k2 pt2) X.env = pure (some [x, y]))
    (hs : swapsWithSole [.Tuple [.Name x px, .Name y py] kt pt] (.Tuple [a, b] k2 pt2) pos.line X.env = pure false := by rfl) :
    PS X (.Assign [.Tuple [.Name x px, .Name y py] kt pt] (.Tuple [a, b] k2 pt2) pos) (tS X n C G W (.par [i, j] A)) :=
  PS_imp (ps_par hc hN hi hj hij hx hy ha hw hs) fun D' σ H ⟨m, ρ, S, ra, re, p⟩ => ⟨m, ρ, S, ra, re, Post.imp (PostS.ofR re p) fun vs H1 ⟨m1, ds, S1, l1, ra1, r1, p1⟩ => by
    match ds, r1, p1 with
    | [d1, d2], r1, p1 =>
      obtain ⟨v, w, rfl, q1, q2⟩ := rps2 r1
      exact ⟨v, w, rfl, p1 m1 H1 _ (Le.refl _ _) ra1 (((re.mono l1).set q1).set q2)⟩
    | [], r1, p1 => exact p1.elim
    | [_], r1, p1 => exact p1.elim
    | _ :: _ :: _ :: _, r1, p1 => exact p1.elim⟩
theorem ds_par3 {i j l : Nat} {x y z : Str} {px py pz pt : Pos} {kt k2 pt2} (hc : X.calm = true) (hN : X.N.Nodup) (hi : X.N[i]? = some x) (hj : X.N[j]? = some y) (hl : X.N[l]? = some z) (hij : i ≠ j) (hil : i ≠ l) (hjl : j ≠ l)
    (hx : X.env.scope.names.lookup x = some .local) (hy : X.env.scope.names.lookup y = some .local) (hz : X.env.scope.names.lookup z = some .local) (ha : PA X [a, b, c] (tDs X C G W A))
    (hw : swappedStores [.Tuple [.Name x px, .Name y py, .Name z pz] kt pt] (.Tuple [a, b, c] k2 pt2) X.env = pure (some [x, y, z]))
    (hs : swapsWithSole [.Tuple [.Name x px, .Name y py, .Name z pz] kt pt] (.Tuple [a, b, c] k2 pt2) pos.line X.env = pure false := by rfl) :
    PS X (.Assign [.Tuple [.Name x px, .Name y py, .Name z pz] kt pt] (.Tuple [a, b, c] k2 pt2) pos) (tS X n C G W (.par [i, j, l] A)) :=
  PS_imp (ps_par3 hc hN hi hj hl hij hil hjl hx hy hz ha hw hs) fun D' σ H ⟨m, ρ, S, ra, re, p⟩ => ⟨m, ρ, S, ra, re, Post.imp (PostS.ofR re p) fun vs H1 ⟨m1, ds, S1, l1, ra1, r1, p1⟩ => by
    match ds, r1, p1 with
    | [d1, d2, d3], .cons q1 r2, p1 =>
      obtain ⟨v, w, rfl, q2, q3⟩ := rps2 r2
      exact ⟨_, v, w, rfl, p1 m1 H1 _ (Le.refl _ _) ra1 ((((re.mono l1).set q1).set q2).set q3)⟩
    | [], r1, p1 => exact p1.elim
    | [_], r1, p1 => exact p1.elim
    | [_, _], r1, p1 => exact p1.elim
    | _ :: _ :: _ :: _ :: _, r1, p1 => exact p1.elim⟩
theorem ds_aug {i : Nat} {x : Str} {op : Operator} {pos' : Pos} (hN : X.N.Nodup) (hi : X.N[i]? = some x) (hx : Loc X.env.scope x) (he : PE X e (tD X C G W A)) (hf : X.fn x = true ∨ X.env.scope.names.lookup x = some .local := by first | exact .inl rfl | exact .inr rfl | assumption) :
    PS X (.AugAssign (.Name x pos') op e pos) (tS X n C G W (.aug i op A)) :=
  PS_imp (ps_aug hN hi hx he (op_aug op) hf) fun D' σ H ⟨m, ρ, S, ra, re, p⟩ => by
    have p0 : PostS X.kw X.mg W m H (match ρ[i]?.bind id with
      | some x => CC.ofR (ev C G A ρ S) ρ fun y S1 => CC.ofR (augD op x y S1) ρ fun z S2 => .nx (ρ.set i (some z)) S2
      | none => .bad) D' := p
    cases q : ρ[i]?.bind id with
    | none => rw [q] at p0; exact p0.elim
    | some d0 =>
      rw [q] at p0
      have q' : ρ[i]? = some (some d0) := by
        cases z : ρ[i]? with
        | none => rw [z] at q; cases q
        | some o => rw [z] at q; have q2 : o = some d0 := q; rw [q2]
      obtain ⟨v, h1, h2⟩ := re.at_ i d0 q'
      refine ⟨v, h1, m, ρ, S, ra, re, Post.imp (PostS.ofR re p0) fun y H1 ⟨m1, d1, S1, l1, ra1, r1, p1⟩ => ?_⟩
      exact ⟨_, m1, S1, d0, d1, ra1, h2.mono l1, r1, Post.imp (PostS.ofR (re.mono l1) p1) fun z H2 ⟨m2, d2, S2, l2, ra2, r2, p2⟩ => p2 m2 H2 _ (Le.refl _ _) ra2 (((re.mono l1).mono l2).set r2)⟩
theorem ds_for {tg iter : Expr} {body : List Stmt} {t it : Xp} {B' : Sx} (hp : PassesOwn (model X.prog X.w) X.A X.env X.xe) (hc : X.calm = true) (hi : PI X tg iter (tDi X C G W it)) (hg : PG X tg (gT X.kw X.mg t)) (hb : PSs X body (tS X n C G W B'))
    (hs : ∀ x, foldedSetIterable iter X.env x = pure x := by intro _; rfl) : PS X (.For tg iter body [] pos) (tS X n C G W (.for_ t it B')) :=
  PS_imp (ps_for hp hc hi hg hb hs) fun D' σ H ⟨m, ρ, S, ra, re, p⟩ => by
    refine ⟨m, ρ, S, ra, re, Post.imp (PostS.ofR re p) ?_⟩
    rintro J H1 ⟨m1, src, S1, l1, ra1, sok, p1⟩
    refine ⟨fun i j σ' H' => ∃ m' ρ' S', Le m1 m' H1 H' ∧ RelA X.kw X.mg m' H' S' ∧ RelE X.kw X.mg m' H' σ' ρ' ∧ PostS X.kw X.mg W m' H' (forl src t (fun ρ S => run n C G B' ρ S) j i ρ' S') D', ⟨src.size S1 + 1, m1, ρ, S1, Le.refl _ _, ra1, re.mono l1, p1⟩, ?_⟩
    rintro i j σ' H' ⟨m', ρ', S', l', ra', re', p'⟩
    cases j with
    | zero => exact p'.elim
    | succ j =>
      have p0 : PostS X.kw X.mg W m' H' (match src.get i S' with
        | none => .bad
        | some none => .nx ρ' S'
        | some (some d) => match bindT t d ρ' with
          | none => .bad
          | some ρ1 => match run n C G B' ρ1 S' with
            | .nx ρ2 S2 => forl src t (fun ρ S => run n C G B' ρ S) j (i + 1) ρ2 S2
            | .ct ρ2 S2 => forl src t (fun ρ S => run n C G B' ρ S) j (i + 1) ρ2 S2
            | .bk ρ2 S2 => .nx ρ2 S2
            | r => r) D' := p'
      obtain ⟨stop, go⟩ := sok m' H' S' i l'.lt ra'
      cases hgt : src.get i S' with
      | none => simp only [hgt] at p0; exact p0.elim
      | some o =>
        cases o with
        | none =>
          simp only [hgt] at p0
          exact .inl ⟨stop hgt, p0 m' H' σ' (Le.refl _ _) ra' re'⟩
        | some d =>
          simp only [hgt] at p0
          obtain ⟨g1, g2⟩ := go d hgt
          refine .inr ⟨g1, _, fun σ2 H2 z => ⟨j, Nat.lt_succ_self j, z⟩, fun x H'' hy => ?_⟩
          obtain ⟨ly, ray, rpx⟩ := g2 x H'' hy
          cases hbt : bindT t d ρ' with
          | none => simp only [hbt] at p0; exact p0.elim
          | some ρ1 =>
            simp only [hbt] at p0
            refine ⟨m', ρ', S', d, ρ1, ray, re'.mono ly, rpx, hbt, fun σ2 re2 _ => ⟨m', ρ1, S', ray, re2, ?_⟩⟩
            cases q : run n C G B' ρ1 S' with
            | nx ρ2 S2 => simp only [q] at p0; exact fun m2 H2 σ3 l2 ra2 re3 => ⟨m2, ρ2, S2, (l'.trans ly).trans l2, ra2, re3, PostS.move (ly.trans l2) p0⟩
            | ct ρ2 S2 => simp only [q] at p0; exact fun m2 H2 σ3 l2 ra2 re3 => ⟨m2, ρ2, S2, (l'.trans ly).trans l2, ra2, re3, PostS.move (ly.trans l2) p0⟩
            | bk ρ2 S2 => simp only [q] at p0; exact PostS.move (D' := { D' with nx := _, ct := _, bk := D'.nx }) ly (r := .bk ρ2 S2) p0
            | rt d2 S2 => simp only [q] at p0; exact PostS.move (D' := { D' with nx := _, ct := _, bk := D'.nx }) ly (r := .rt d2 S2) p0
            | exc cc pp ρ2 S2 => simp only [q] at p0; exact PostS.move (D' := { D' with nx := _, ct := _, bk := D'.nx }) ly (r := .exc cc pp ρ2 S2) p0
            | bad => simp only [q] at p0; exact p0
theorem ds_setLc {i : Nat} {y : Str} {py spos : Pos} {elt tg iter : Expr} {ifs : List Expr} {scope : Scope} {own : List (Str × Nat)} {it tx ex cd : Xp} (cx : Ctx true X) (hy : X.N[i]? = some y) (hyl : X.env.scope.names.lookup y = some .local)
    (hsw : swapsWith (.ListComp elt [⟨tg, iter, ifs, 0⟩] scope pos) (some (.Name y py)) spos.line X.env = pure true) (hi : PI X tg iter (tDi X C G W it)) (ok : BlkOk X.N X.env.scope scope own)
    (hg : ∀ (s : Shared) (H : Hp) (L : Addr) (cl : List (Str × Addr)) (fp : List Addr), PG (X.blk s H scope (compEnvC scope cl L X.env) fp) tg (gT X.kw X.mg tx))
    (ht : ∀ (s : Shared) (H : Hp) (L : Addr) (cl : List (Str × Addr)) (fp : List Addr), PTs (X.blk s H scope (compEnvC scope cl L X.env) fp) ifs (tDT X C G W00 cd))
    (he : ∀ (s : Shared) (H : Hp) (L : Addr) (cl : List (Str × Addr)) (fp : List Addr), PE (X.blk s H scope (compEnvC scope cl L X.env) fp) elt (tD X C G W00 ex))
    (hsl : ∀ i ∈ tslots tx, i ∈ own.map (·.2)) (hs : ∀ x, foldedSetIterable iter X.env x = pure x := by intro _; rfl) :
    PS X (.Assign [.Name y py] (.ListComp elt [⟨tg, iter, ifs, 0⟩] scope pos) spos) (tS X n C G W (.asg (.var i) (.lc it tx ex cd (own.map (·.2))))) :=
  PS_imp (ps_setLc (cx.calm rfl) cx.nd hy hyl hsw hi ok hg ht he hs) fun D' σ H ⟨m, ρ, S, ra, re, p⟩ => i_lc hsl ⟨m, ρ, S, ra, re, Post.imp (PostS.ofR re p) fun v H1 ⟨m1, d, S1, l1, ra1, r1, p1⟩ => p1 m1 H1 _ (Le.refl _ _) ra1 ((re.mono l1).set r1)⟩
end
end CC
namespace CC
open PySem PySem.Spec PyProof.Rows L2
theorem rps_ints {K : KW} {mg : Str → Option Value} {m : Mp} {H : Hp} : ∀ ns : List Int, Rps K mg m H (ns.map D.int) (ns.map V.int)
  | [] => .nil
  | n :: ns => .cons (.int n) (rps_ints ns)
abbrev Told (P : Program) (w : World) (fa a : Addr) (s : Shared) : Prop :=
  codeAny (model P w) callerA (.call (.ref fa) ⟨[.ref a], []⟩) (fun r s' => r = .ok (.ret (.bool true)) ∧ PySem.OldK s.heap s'.heap ∧ s'.os = s.os ∧ AllBare s'.gens) s
theorem law_core {P : Program} {w : World} {K : PySem.W.Frag} {mg mb : Str → Option Value} {k : Nat} {fa a : Addr} {x : Str} {kw : List (Nat × List Str × List Nat)} {cs : List D → Sto → R D} {s : Shared} {vs : List Value} {ns : List Int} {H : Hp} {m : Mp} {ob : Obj}
    (KX : K.In s.heap) (hns : s.heap.Ns mainGlobals mg) (hb : s.heap.Ns builtinsNs mb) (hbb : ∀ x : Str, x ≠ "__name__" → mb x = bootBuiltins x) (hlim : s.heap.NoLimit) (hg : s.gens = #[])
    (ha : s.heap.get? a = some ob) (hob : ob = { cls := .type "list", data := .seq vs.toArray }) (hr : Room k callerA)
    (hfa : mg x = some (.ref fa)) (F : ∀ base : Heap, K.In base → base.Ns mainGlobals mg → FnAt P w K mg base k x 1 kw cs)
    (hcs : ∃ S', cs [.loc 0] [.frz (ns.map D.int)] = .ok (.bl true) S')
    (hH : ∀ b, H b = none ∨ (b = a ∧ H b = some (.frz ob (.lst (ns.map V.int))))) (hK : H a ≠ none → K.lookup a = none) (ok : HOk P w H s.heap)
    (ra : RelA ⟨K, w, none⟩ mg m H [.frz (ns.map D.int)]) (rp : Rp ⟨K, w, none⟩ mg m H (.loc 0) (.ref a)) : Told P w fa a s := by
  have only : ∀ b u, H b = some u → b = a ∧ u = .frz ob (.lst (ns.map V.int)) := fun b u z => by
    rcases hH b with q | ⟨q1, q2⟩
    · rw [z] at q; cases q
    · rw [z] at q2; cases q2; exact ⟨q1, rfl⟩
  have nodict : ∀ {b : Addr} {o : Obj} {es : Array DictEntry} {ep : Nat}, s.heap.get? b = some o → o.data = .dict es ep → H b = none := by
    intro b o es ep z1 z2
    rcases hH b with q | ⟨q1, _⟩
    · exact q
    · subst q1
      rw [ha, hob] at z1
      cases z1
      cases z2
  have keepNs : ∀ {b : Addr} {mm : Str → Option Value}, s.heap.Ns b mm → (hidT s.heap H).Ns b mm := by
    rintro b mm ⟨o, es, ep, z1, z2, z3⟩
    exact ⟨o, es, ep, hidT_get z1 (nodict z1 z2), z2, z3⟩
  have inBase : K.In (hidT s.heap H) := by
    intro b o z
    refine hidT_get (KX b o z) ?_
    rcases hH b with q | ⟨q1, q2⟩
    · exact q
    · subst q1
      rw [hK (by rw [q2]; simp)] at z
      cases z
  have md : Mod K mg (hidT s.heap H) := by
    obtain ⟨mc, l1, l2⟩ := hlim
    exact ⟨inBase, keepNs hns, ⟨mb, keepNs hb, hbb⟩, ⟨mc, keepNs l1, l2⟩⟩
  have env : Env0 P w K mg (hidT s.heap H) callerA [] s H :=
    { frames := rfl, mod := md, bs := fun b o z => of_hidT z, bsz := Nat.le_of_eq (hidT_size _ _), funs := trivial, frf := (by intro b z; cases z), hok := ok, bare := .of_eq hg }
  obtain ⟨S', hS⟩ := hcs
  have post : Post ⟨K, w, none⟩ mg (fun _ _ _ => False) (Rp ⟨K, w, none⟩ mg) m H (cs [.loc 0] [.frz (ns.map D.int)]) (fun v _ => v = .bl true) := by
    rw [hS]
    intro m' H' v _ _ r
    cases r
    rfl
  obtain ⟨f, fd, ps, hm, hk, hl, hbd, _, FG⟩ := (F _ inBase (keepNs hns)).ex
  have ef := hfa.symm.trans hm
  cases ef
  have hbs : BindsTo s fd ⟨[.ref a], []⟩ (ps.zip [.ref a]) := by
    have z := hbd s [.ref a] KX (by simpa using hl.symm)
    rw [List.append_nil] at z
    exact z
  refine codeAny_mono (FG.run callerA [] s H ⟨[.ref a], []⟩ [.ref a] [.ref a] m [.loc 0] _ _ _ rfl hr env hbs (.cons rfl .nil) ra (.cons rp .nil) post) ?_
  intro r s' h
  cases r with
  | error e =>
    obtain ⟨_, _, _, _, _, _, _, _, _, _, _, _, z⟩ := h
    exact z.elim
  | ok fl =>
    cases fl with
    | ret u =>
      obtain ⟨v, H', os, bare, un, ok', rv, q⟩ := h
      have q' : v = V.bl true := q
      subst q'
      have rv' : u = Value.bool true := rv
      subst rv'
      refine ⟨rfl, PySem.OldK.of_keep ?_, os, bare⟩
      intro b o z
      cases q : H b with
      | none => exact un.keep b o z q (by intro q; cases q) (by simp)
      | some u =>
        obtain ⟨e1, e2⟩ := only b u q
        subst e2
        have z2 := un.frzs b ob _ q
        obtain ⟨g1, _⟩ := ok b _ q
        obtain ⟨g2, _⟩ := ok' b _ z2
        rw [z] at g1
        cases g1
        exact g2
    | next => exact False.elim h
    | brk => exact False.elim h
    | cont => exact False.elim h
theorem law_g {P : Program} {w : World} {K : PySem.W.Frag} {mg mb : Str → Option Value} {k : Nat} {fa a : Addr} {x : Str} {kw : List (Nat × List Str × List Nat)} {cs : List D → Sto → R D} {s : Shared} {vs : List Value} {ns : List Int}
    (KX : K.In s.heap) (hns : s.heap.Ns mainGlobals mg) (hb : s.heap.Ns builtinsNs mb) (hbb : ∀ x : Str, x ≠ "__name__" → mb x = bootBuiltins x) (hlim : s.heap.NoLimit) (hg : s.gens = #[])
    (ha : s.heap.get? a = some { cls := .type "list", data := .seq vs.toArray }) (hi : IntsAre vs ns) (hl : ns.length ≤ sizeLine) (hr : Room k callerA)
    (hfa : mg x = some (.ref fa)) (F : ∀ base : Heap, K.In base → base.Ns mainGlobals mg → FnAt P w K mg base k x 1 kw cs)
    (hcs : ∃ S', cs [.loc 0] [.frz (ns.map D.int)] = .ok (.bl true) S') : Told P w fa a s := by
  have rv := vals_ints hi
  cases hk : K.lookup a with
  | some o =>
    have e := KX a o hk
    rw [ha] at e
    cases e
    refine law_core (H := fun _ => none) (m := [(a, true)]) KX hns hb hbb hlim hg ha rfl hr hfa F hcs (fun _ => .inl rfl) (fun z => absurd rfl z) (fun b u z => by cases z) ⟨rfl, ?_, ?_, fun _ e => nomatch e⟩ (.loc (b := true) rfl)
    · intro i j c h1 h2
      match i, h1 with
      | 0, h1 => cases h1
    · intro i p so h1 h2
      match i, h1, h2 with
      | 0, h1, h2 =>
        cases h1
        cases h2
        refine ⟨ns.map V.int, .inr ⟨rfl, _, vs.toArray, _, hk, rfl, rfl, rfl, ?_, by simpa using rv⟩, rps_ints ns⟩
        rw [List.size_toArray, hi.length]
        exact hl
  | none =>
    have at_a : (fun b : Addr => if b = a then some (HO.frz { cls := .type "list", data := .seq vs.toArray } (.lst (ns.map V.int))) else none) a = some (.frz { cls := .type "list", data := .seq vs.toArray } (.lst (ns.map V.int))) := if_pos rfl
    refine law_core (H := fun b => if b = a then some (.frz { cls := .type "list", data := .seq vs.toArray } (.lst (ns.map V.int))) else none) (m := [(a, false)]) KX hns hb hbb hlim hg ha rfl hr hfa F hcs ?_ (fun _ => hk) ?_ ⟨rfl, ?_, ?_, fun _ e => nomatch e⟩ (.loc (b := false) rfl)
    · intro b
      by_cases q : b = a
      · exact .inr ⟨q, if_pos q⟩
      · exact .inl (if_neg q)
    · intro b u z
      by_cases q : b = a
      · subst q
        have z' := at_a.symm.trans z
        cases z'
        exact ⟨ha, by rw [List.length_map]; exact hl, vs, _, rv, ha⟩
      · have z' := (if_neg q).symm.trans z
        cases z'
    · intro i j c h1 h2
      match i, j, h1, h2 with
      | 0, 0, _, _ => rfl
    · intro i p so h1 h2
      match i, h1, h2 with
      | 0, h1, h2 =>
        cases h1
        cases h2
        exact ⟨ns.map V.int, .inl ⟨rfl, _, at_a⟩, rps_ints ns⟩
theorem walk_e {l : PySem.W.OpenLaw} {n k : Nat} {q : Program} {loose : List Str} {XP : (Str → Option Value) → Heap → Prop} {YP : World → Heap → Prop} {d : DefRec} {x : Str} {kw : List (Nat × List Str × List Nat)} {cs : List D → Sto → R D}
    (hn : l.most = some n) (hn2 : n ≤ sizeLine) (hdf : d.params.defaults = []) (hx : d.name = x) (hr : Room k callerA)
    (F : ∀ (w : World) (mg : Str → Option Value) (h : Heap), YP w h → h.Ns mainGlobals mg →
      ∃ K : PySem.W.Frag, K.In h ∧ ∀ base : Heap, K.In base → base.Ns mainGlobals mg → FnAt l.prog w K mg base k x 1 kw cs)
    (hcs : ∀ ns : List Int, ns.length ≤ n → ∃ S', cs [.loc 0] [.frz (ns.map D.int)] = .ok (.bl true) S') :
    PySem.W.WalkO q loose XP YP l.row.toRowW d [] (fun f vs => PySem.call f vs) := by
  refine Att.attach_call hn hdf ?_
  intro w s₀ s₁ mg mb fa o pm cd doc a vs ns G Y ho hd hcd hmg hobj hints hlen hgens
  obtain ⟨K, KX, hF⟩ := F w mg _ Y G.T.g
  exact law_g KX G.T.g G.T.b G.T.builtins G.T.nolimit hgens hobj hints (Nat.le_trans hlen hn2) hr (hx ▸ hmg) hF (hcs ns hlen)
theorem post_end {K : KW} {mg : Str → Option Value} {E : XK} {m : Mp} {H : Hp} {r : Rs} {Q : VK} (h : Post K mg E (Rp K mg) m H (endR r) Q) : PostS K mg (fun c d _ H' => E c d H') m H r { nx := fun _ H' => Q .non H', rt := Q } := by
  cases r with
  | nx ρ S => exact fun m' H' σ l ra _ => h m' H' .non l ra .non
  | rt d S => exact h
  | exc c p ρ S => exact fun m' H' σ cls dd l ra _ rx => h m' H' cls dd l ra rx
  | bk _ _ => exact h.elim
  | ct _ _ => exact h.elim
  | bad => exact h
theorem relE_start {K : KW} {mg : Str → Option Value} {m : Mp} {H : Hp} {N : List Str} {n : Nat} {ds : List D} {vs : List V} (hn : N.length = n) (rs : Rps K mg m H ds vs) : RelE K mg m H (start N vs) (startE n ds) := by
  unfold L2.start startE
  refine ⟨by simp [rs.length, hn], fun i d e => ?_⟩
  by_cases c : i < ds.length
  · rw [List.getElem?_append_left (by simpa using c), List.getElem?_map] at e
    cases q : ds[i]? with
    | none => rw [q] at e; cases e
    | some d' =>
      rw [q] at e
      cases e
      obtain ⟨v, h1, h2⟩ := rs.get q
      refine ⟨v, ?_, h2⟩
      rw [List.getElem?_append_left (by rw [List.length_map, rs.length]; exact c), List.getElem?_map, h1]
      rfl
  · rw [List.getElem?_append_right (by simpa using Nat.le_of_not_lt c), List.getElem?_replicate] at e
    split at e <;> cases e
structure NoB (mg : Str → Option Value) : Prop where
  no : ∀ x ∈ bnames, mg x = none
theorem def_ok {P : Program} {w : World} {K : PySem.W.Frag} {mg : Str → Option Value} {base : Heap} {k : Nat} {f : Addr} {x y0 qual : Str} {st : Stmt} {fdd : FuncData} {N ps : List Str} {i n : Nat} {fd : Fd} {C : CallSem} {G : Nat → Option D} {T : Nat → Option Fd}
    (nob : NoB mg) (F : Fun K y0 qual st f fdd) (sc : FnScope N ps (defScope st)) (hT : T i = some fd) (hps : ps.length = fd.np) (hN : N.length = fd.n) (hm : mg x = some (.ref f)) (hb : Binds K fdd ps []) {kw : List (Nat × List Str × List Nat)} (hkb : ∀ q ∈ kw, KB fdd ps q)
    (der : ∀ (cdv : Value) (A : Around) (outer : List PySem.Env) (s : Shared) (H : Hp) (E : XK), Ctx true (cxOf (L2N.CX P w) P w K mg base N qual (defScope st) f cdv A outer s H E) → Room k (cxOf (L2N.CX P w) P w K mg base N qual (defScope st) f cdv A outer s H E).A →
      L2N.Takes (cxOf (L2N.CX P w) P w K mg base N qual (defScope st) f cdv A outer s H E) (fun c d _ H' => E c d H') →
      PassesOwn (model P w) (A.deeper (envOfC qual (defScope st) s.heap.objs.size f cdv)) (envOfC qual (defScope st) s.heap.objs.size f cdv) (cxOf (L2N.CX P w) P w K mg base N qual (defScope st) f cdv A outer s H E).xe →
      PSs (cxOf (L2N.CX P w) P w K mg base N qual (defScope st) f cdv A outer s H E) (defBody st) (tS (cxOf (L2N.CX P w) P w K mg base N qual (defScope st) f cdv A outer s H E) n C G (fun c d _ H' => E c d H') fd.body)) :
    FnAt P w K mg base (k + 1) x fd.np kw (fun ds S => if ds.length = fd.np then trim S (endR (run n C G fd.body (startE fd.n ds) S)) else .bad) := by
  refine ⟨f, fdd, ps, hm, F.kp, hps, hb, hkb, fnG_of F sc (fun ds S h => ?_) ?_⟩
  · by_cases c : ds.length = fd.np
    · rw [c, hps]
    · rw [if_neg c] at h
      exact absurd rfl h
  · intro cdv A outer s H vs m ds S Q E hg room ra rs post
    have c : ds.length = fd.np := by
      by_cases c : ds.length = fd.np
      · exact c
      · rw [if_neg c] at post
        exact post.elim
    rw [if_pos c] at post
    have ek : (cxOf (L2N.CX P w) P w K mg base N qual (defScope st) f cdv A outer s H E).kw = (⟨K, w, none⟩ : KW) := kw_calm (X := cxOf (L2N.CX P w) P w K mg base N qual (defScope st) f cdv A outer s H E) room
    rw [← ek] at ra rs post
    refine ⟨_, der cdv A outer s H E ⟨fun _ => rfl, ?_, sc.nd, hg, nob.no, .inl room.hd⟩ room (L2N.takes_of rfl rfl rfl rfl) (passes_of rfl), m, _, S, ra, relE_start hN rs, post_end (Post.trim ra post)⟩
    have hu := room.un
    show (A.deeper (envOfC qual (defScope st) s.heap.objs.size f cdv)).units + 100 < cLine
    omega
section
open PySem.PyData
mutual
theorem shown_le : ∀ p : PyData, p.showable = true → dic0 p = true → p.shown.length ≤ shB p
  | .none, _, _ => by decide +kernel
  | .bool b, _, _ => by cases b <;> decide +kernel
  | .int i, h, _ => by
    have h' : i.natAbs.log2 < 1920 := of_decide_eq_true (by simpa only [PyData.showable] using h)
    simp only [PyData.shown, shB]
    have := int_text_length_le (a := i) (k := i.natAbs.log2 + 1) (by omega) (by omega)
    rw [PySem.ofString_length]
    omega
  | .str x, _, _ => by simp only [PyData.shown, shB]; exact Nat.le_refl _
  | .list xs, h, h2 => by
    have ih := shown_les xs (by simpa only [PyData.showable] using h) (by simpa only [dic0] using h2)
    simp only [PyData.shown, shB]
    have := listText_len_le (shownAll xs)
    rw [shownAll_length] at this
    omega
  | .tuple xs, h, h2 => by
    have ih := shown_les xs (by simpa only [PyData.showable] using h) (by simpa only [dic0] using h2)
    simp only [PyData.shown, shB]
    have := PySem.fmt_text (shownAll xs)
    have e : piled (shownAll xs) = ((shownAll xs).map (·.length)).sum + 2 * xs.length := piled_eq xs
    omega
  | .dict [], _, _ => by decide +kernel
  | .dict (_ :: _), _, h2 => by simp [dic0] at h2
theorem shown_les : ∀ xs : List PyData, PyData.showableAll xs = true → dic0s xs = true → ((shownAll xs).map (·.length)).sum + 2 * xs.length ≤ shBs xs
  | [], _, _ => by simp [shownAll, shBs]
  | x :: xs, h, h2 => by
    simp only [PyData.showableAll, Bool.and_eq_true] at h
    simp only [dic0s, Bool.and_eq_true] at h2
    have h3 := shown_le x h.1 h2.1
    have ih := shown_les xs h.2 h2.2
    simp only [shownAll, shBs, List.map_cons, List.sum_cons, List.length_cons]
    omega
theorem shownAll_length : ∀ xs : List PyData, (shownAll xs).length = xs.length
  | [] => by simp [shownAll]
  | x :: xs => by simp [shownAll, shownAll_length xs]
theorem piled_eq : ∀ xs : List PyData, piled (shownAll xs) = ((shownAll xs).map (·.length)).sum + 2 * xs.length
  | [] => by simp [shownAll, piled]
  | x :: xs => by
    have ih := piled_eq xs
    unfold piled at ih ⊢
    simp only [shownAll, List.map_cons, List.sum_cons, List.length_cons]
    omega
end
end
mutual
inductive Dq (K : PySem.W.Frag) (H : Hp) : V → PyData → Prop
  | non : Dq K H .non .none
  | bl (b : Bool) : Dq K H (.bl b) (.bool b)
  | int (i : Int) : Dq K H (.int i) (.int i)
  | str (x : Str) : Dq K H (.str x) (.str x)
  | lst {a : Addr} {xs : List V} {ds : List PyData} : SqL K H a xs → Dqs K H xs ds → Dq K H (.ref a) (.list ds)
  | tup {a : Addr} {xs : List V} {ds : List PyData} : SqT K H a xs → Dqs K H xs ds → Dq K H (.ref a) (.tuple ds)
  | dic {a : Addr} : Rd H a (.dK []) → Dq K H (.ref a) (.dict [])
inductive Dqs (K : PySem.W.Frag) (H : Hp) : List V → List PyData → Prop
  | nil : Dqs K H [] []
  | cons {v : V} {vs : List V} {d : PyData} {ds : List PyData} : Dq K H v d → Dqs K H vs ds → Dqs K H (v :: vs) (d :: ds)
end
section
variable {K : KW} {mg : Str → Option Value} {m : Mp} {H : Hp} {S : Sto}
theorem toQs_dq (f : D → Option PyData) (hf : ∀ d v p, Rp K mg m H d v → f d = some p → Dq K H v p) : ∀ {ds : List D} {vs : List V} {ps : List PyData}, Rps K mg m H ds vs → ds.mapM f = some ps → Dqs K H vs ps
  | _, _, ps, .nil, e => by
    rw [List.mapM_nil] at e
    cases e
    exact .nil
  | d :: ds, v :: vs, ps, .cons h hs, e => by
    rw [List.mapM_cons] at e
    cases q : f d with
    | none => rw [q] at e; cases e
    | some p =>
      rw [q] at e
      cases q2 : ds.mapM f with
      | none => rw [q2] at e; cases e
      | some r =>
        rw [q2] at e
        cases e
        exact .cons (hf d v p h q) (toQs_dq f hf hs q2)
theorem toQ_dq (ra : RelA K mg m H S) : ∀ (n : Nat) (d : D) (v : V) (p : PyData), Rp K mg m H d v → toQ S n d = some p → Dq K H v p
  | n, _, _, p, .non, e => by cases n <;> (cases e; exact .non)
  | n, _, _, p, .bl b, e => by cases n <;> (cases e; exact .bl b)
  | n, _, _, p, .int i, e => by cases n <;> (cases e; exact .int i)
  | n, _, _, p, .str x, e => by cases n <;> (cases e; exact .str x)
  | n, _, _, p, .ty t, e => by cases n <;> cases e
  | n, _, _, p, .fn h, e => by cases n <;> cases e
  | n, _, _, p, .exn h1 h2 h hf hs, e => by cases n <;> cases e
  | n, _, _, p, .cls h1 h2, e => by cases n <;> cases e
  | n, _, _, p, .fm h hk hq hs, e => by cases n <;> cases e
  | n, _, _, p, .bd h hs, e => by cases n <;> cases e
  | n, _, _, p, .bm h hk hq hs, e => by cases n <;> cases e
  | 0, _, _, p, .tup h hs, e => by cases e
  | 0, _, _, p, .loc h, e => by cases e
  | 0, _, _, p, .fl h hs, e => by cases e
  | n, _, _, p, .fd (ks := []) (ds := []) (kvs := []) h hk hs, e => by
    have e' : some (PyData.dict []) = some p := by cases n <;> exact e
    cases e'
    exact .dic (.inr ⟨_, h⟩)
  | n, _, _, p, .fd (ks := []) (ds := []) (kvs := _ :: _) h hk hs, e => by cases hk
  | n, _, _, p, .fd (ks := _ :: _) (ds := _) h hk hs, e => by cases n <;> cases e
  | n, _, _, p, .fd (ks := []) (ds := _ :: _) h hk hs, e => by cases n <;> cases e
  | n + 1, _, _, p, .fl (ds := ds) h hs, e => by
    unfold toQ at e
    cases q : ds.mapM (toQ S n) with
    | none => rw [q] at e; cases e
    | some ps =>
      rw [q] at e
      cases e
      exact .lst (.inl (.inr ⟨_, h⟩)) (toQs_dq (toQ S n) (fun d v p r z => toQ_dq ra n d v p r z) hs q)
  | n + 1, _, _, p, .tup (ds := ds) h hs, e => by
    unfold toQ at e
    cases q : ds.mapM (toQ S n) with
    | none => rw [q] at e; cases e
    | some ps =>
      rw [q] at e
      cases e
      exact .tup h.t (toQs_dq (toQ S n) (fun d v p r z => toQ_dq ra n d v p r z) hs q)
  | n + 1, _, _, p, .loc (n := k) h, e => by
    unfold toQ at e
    cases q0 : lstAt S k with
    | none =>
      rw [q0] at e
      cases q1 : dicAt S k with
      | none => simp only [q1] at e; cases e
      | some kvs =>
        simp only [q1] at e
        cases kvs with
        | cons _ _ => cases e
        | nil =>
          cases e
          obtain ⟨ks, g1, g2⟩ := dic_ro ra h q1
          have : ks = [] := by
            have := g2.1
            cases ks with
            | nil => rfl
            | cons _ _ => cases this
          subst this
          exact .dic g1
    | some ds =>
      rw [q0] at e
      obtain ⟨vs, h1, h2⟩ := ra.seq h q0
      cases q : ds.mapM (toQ S n) with
      | none =>
        have e' : (ds.mapM (toQ S n)).map PyData.list = some p := e
        rw [q] at e'; cases e'
      | some ps =>
        have e' : (ds.mapM (toQ S n)).map PyData.list = some p := e
        rw [q] at e'
        cases e'
        exact .lst h1 (toQs_dq (toQ S n) (fun d v p r z => toQ_dq ra n d v p r z) h2 q)
end
section
variable {X : Cx} {pins : List (Addr × Obj)} {σ : L2.St} {H : Hp} {s : Shared}
theorem dk0_at (I : Inv X pins σ H s) {a : Addr} (h : Rd H a (.dK [])) : (a == sysModules) = false ∧ ∃ o n, s.heap.get? a = some o ∧ o.cls = .type "dict" ∧ o.data = .dict #[] n := by
  obtain ⟨_, hs, vs, r, o, es, ep, h1, h2, h3, _, h5, _⟩ := dk_rd I.hok h
  cases r
  have : es = #[] := by
    obtain ⟨l⟩ := es
    cases h5
    rfl
  subst this
  exact ⟨hs, o, ep, h1, h2.1, h3⟩
mutual
theorem Dq.rd (I : Inv X pins σ H s) : ∀ (d : PyData) (v : V) (u : Value), Dq X.K H v d → RelV v u → ∃ as, Reads s.heap u d as
  | .none, _, _, h, r => by
    cases h
    cases r
    exact ⟨_, Reads.none⟩
  | .bool b, _, _, h, r => by
    cases h
    cases r
    exact ⟨_, Reads.bool b⟩
  | .int i, _, _, h, r => by
    cases h
    obtain ⟨t, rfl⟩ := r
    exact ⟨_, Reads.int i t⟩
  | .str x, _, _, h, r => by
    cases h
    obtain ⟨t, rfl⟩ := r
    exact ⟨_, Reads.str x t⟩
  | .list ds, _, _, h, r => by
    cases h with
    | lst hs ha =>
      cases r
      obtain ⟨its, rv, ⟨o, n, ho, hc, _, hd⟩, _⟩ := I.list hs
      obtain ⟨as, hr⟩ := Dqs.rd I ds _ its ha rv
      exact ⟨_, Reads.list ho hc hd hr⟩
  | .tuple ds, _, _, h, r => by
    cases h with
    | tup hs ha =>
      cases r
      obtain ⟨its, rv, ⟨o, ho, hc, n, hd⟩, _⟩ := I.tuple hs
      obtain ⟨as, hr⟩ := Dqs.rd I ds _ its ha rv
      exact ⟨_, Reads.tuple ho hc hd hr⟩
  | .dict _, _, _, h, r => by
    cases h with
    | dic hd =>
      cases r
      obtain ⟨_, o, n, h1, h2, h3⟩ := dk0_at I hd
      exact ⟨_, Reads.dict h1 h2 h3 .nil .nil⟩
theorem Dqs.rd (I : Inv X pins σ H s) : ∀ (ds : List PyData) (vs : List V) (us : List Value), Dqs X.K H vs ds → Vals vs us → ∃ as, ReadsAll s.heap us ds as
  | [], _, _, h, r => by
    cases h
    cases r
    exact ⟨_, ReadsAll.nil⟩
  | d :: ds, _, _, h, r => by
    cases h with
    | cons h1 h2 =>
      cases r with
      | cons r1 r2 =>
        obtain ⟨as, q1⟩ := Dq.rd I d _ _ h1 r1
        obtain ⟨bs, q2⟩ := Dqs.rd I ds _ _ h2 r2
        exact ⟨_, ReadsAll.cons q1 q2⟩
end
mutual
theorem Dq.rk {prog : Program} {w : World} (I : Inv X pins σ H s) : ∀ (d : PyData) (v : V) (u : Value), Dq X.K H v d → RelV v u → d.showable = true → d.shown.length ≤ sizeLine → ∃ bs, ReadAtMost s.heap d.depth bs ∧ ReprK prog w bs s.heap d.depth u d.shown
  | .none, _, _, h, r, _, _ => by
    cases h
    cases r
    exact ⟨[], (fun _ h => nomatch h), by simp only [PyData.shown]; exact .of_is ReprIs.none _ _ _⟩
  | .bool b, _, _, h, r, _, _ => by
    cases h
    cases r
    exact ⟨[], (fun _ h => nomatch h), by simp only [PyData.shown]; exact .of_is (ReprIs.bool b) _ _ _⟩
  | .int i, _, _, h, r, hs, _ => by
    cases h
    obtain ⟨t, rfl⟩ := r
    exact ⟨[], (fun _ h => nomatch h), by simp only [PyData.shown]; exact .of_is (ReprIs.int t (by simpa [PyData.showable] using hs)) _ _ _⟩
  | .str x, _, _, h, r, _, hz => by
    cases h
    obtain ⟨t, rfl⟩ := r
    exact ⟨[], (fun _ h => nomatch h), by simp only [PyData.shown]; exact .of_is (ReprIs.str x t (by simpa only [PyData.shown] using hz)) _ _ _⟩
  | .list xs, _, _, h, r, hs, hz => by
    obtain ⟨as0, r0⟩ := Dq.rd I (.list xs) _ _ h r
    cases h with
    | lst hq ha =>
      cases r
      obtain ⟨its, rv, ⟨o, n, h1, h2, _, h3⟩, _⟩ := I.list hq
      have hz' : (listText (PyData.shownAll xs)).length ≤ sizeLine := by simpa only [PyData.shown] using hz
      obtain ⟨bs, hb, hk⟩ := Dqs.rk (prog := prog) (w := w) I xs _ its ha rv (by simpa [PyData.showable] using hs) (fun t ht => Nat.le_trans (listText_mem_le ht) hz')
      have hna := not_mem_of_deeper r0 (by simp only [PyData.depth]; omega) hb
      refine ⟨_ :: bs, ReadAtMost.cons r0 (by simp only [PyData.depth]; omega) hb, ?_⟩
      simp only [PyData.depth, PyData.shown]
      cases its with
      | nil =>
        cases rv
        cases ha
        simp only [PyData.shownAll, listText_nil]
        exact ReprK.listEmpty h1 h2 h3
      | cons x l => exact ReprK.list h1 h2 h3 hna (by simpa using hk.length_eq) (fun i y e => hk.item i y (by simpa using e))
  | .tuple xs, _, _, h, r, hs, hz => by
    obtain ⟨as0, r0⟩ := Dq.rd I (.tuple xs) _ _ h r
    cases h with
    | tup hq ha =>
      cases r
      obtain ⟨its, rv, ⟨o, h1, h2, n, h3⟩, _⟩ := I.tuple hq
      have hz' : (tupleText (PyData.shownAll xs)).length ≤ sizeLine := by simpa only [PyData.shown] using hz
      obtain ⟨bs, hb, hk⟩ := Dqs.rk (prog := prog) (w := w) I xs _ its ha rv (by simpa [PyData.showable] using hs) (fun t ht => Nat.le_trans (tupleText_mem_le ht) hz')
      have hna := not_mem_of_deeper r0 (by simp only [PyData.depth]; omega) hb
      refine ⟨_ :: bs, ReadAtMost.cons r0 (by simp only [PyData.depth]; omega) hb, ?_⟩
      simp only [PyData.depth, PyData.shown]
      exact ReprK.tuple h1 h2 h3 hna hk
  | .dict _, _, _, h, r, _, _ => by
    cases h with
    | dic hd =>
      cases r
      obtain ⟨hsys, o, n, h1, h2, h3⟩ := dk0_at I hd
      have r0 : Reads s.heap (.ref _) (.dict []) _ := Reads.dict (kvs := []) h1 h2 h3 .nil .nil
      refine ⟨[_], ReadAtMost.cons r0 (Nat.zero_le _) (n := 0) (fun _ h => nomatch h), ?_⟩
      simp only [PyData.depth, PyData.shown]
      exact ReprK.dict h1 h2 h3 hsys (by simp) .nil
theorem Dqs.rk {prog : Program} {w : World} (I : Inv X pins σ H s) : ∀ (ds : List PyData) (vs : List V) (us : List Value), Dqs X.K H vs ds → Vals vs us → PyData.showableAll ds = true → (∀ t ∈ PyData.shownAll ds, t.length ≤ sizeLine) →
    ∃ bs, ReadAtMost s.heap (PyData.depthAll ds) bs ∧ ReprAllK prog w bs s.heap (PyData.depthAll ds) us (PyData.shownAll ds)
  | [], _, _, h, r, _, _ => by
    cases h
    cases r
    exact ⟨[], (fun _ h => nomatch h), by simp only [PyData.shownAll]; exact .nil⟩
  | d :: ds, _, _, h, r, hs, hz => by
    cases h with
    | cons h1 h2 =>
      cases r with
      | cons r1 r2 =>
        have hs' : d.showable = true ∧ PyData.showableAll ds = true := by simpa [PyData.showableAll] using hs
        obtain ⟨b1, hb1, k1⟩ := Dq.rk (prog := prog) (w := w) I d _ _ h1 r1 hs'.1 (hz _ (by simp only [PyData.shownAll]; exact List.mem_cons_self ..))
        obtain ⟨b2, hb2, k2⟩ := Dqs.rk (prog := prog) (w := w) I ds _ _ h2 r2 hs'.2 (fun t ht => hz t (by simp only [PyData.shownAll]; exact List.mem_cons_of_mem _ ht))
        refine ⟨b1 ++ b2, (hb1.mono (by simp only [PyData.depthAll]; omega)).append (hb2.mono (by simp only [PyData.depthAll]; omega)), ?_⟩
        simp only [PyData.depthAll, PyData.shownAll]
        exact .cons ((k1.more fun b hb => List.mem_append_left _ hb).level_le (Nat.le_max_left _ _)) (k2.more_le (fun b hb => List.mem_append_right _ hb) (Nat.le_max_right _ _))
end
theorem Dq.shows {prog : Program} {w : World} (I : Inv X pins σ H s) {d : PyData} {a : Addr} (h : Dq X.K H (.ref a) d) (hs : d.showable = true) (hsz : d.shown.length ≤ sizeLine) : ∃ T idr, ShowsBy prog w s.heap a d T idr := by
  obtain ⟨as0, r0⟩ := Dq.rd I d _ (.ref a) h rfl
  cases h with
  | lst hq ha =>
    rename_i vs0 xs
    obtain ⟨its, rv, ⟨o, n, h1, h2, _, h3⟩, _⟩ := I.list hq
    have hz' : (listText (PyData.shownAll xs)).length ≤ sizeLine := by simpa only [PyData.shown] using hsz
    obtain ⟨bs, hb, hk⟩ := Dqs.rk (prog := prog) (w := w) I xs _ its ha rv (by simpa [PyData.showable] using hs) (fun t ht => Nat.le_trans (listText_mem_le ht) hz')
    have hna := not_mem_of_deeper r0 (by simp only [PyData.depth]; omega) hb
    refine ⟨"list", "list.__repr__", F.slot_list_repr.toG, F.slot_list_str, F.slot_list_format, fun s hk0 => ⟨o, hk0 _ _ h1, h2⟩, fun A E s Q hg hu hk0 hQ => ?_⟩
    simp only [PyData.depth] at hu
    simp only [PyData.shown] at hQ
    cases its with
    | nil =>
      cases rv
      cases ha
      simp only [PyData.shownAll, listText_nil] at hQ
      exact call_list_repr_empty ⟨o, hk0 _ _ h1, h2⟩ (hk0 _ _ h1) h3 (hQ s.heap _ _ fun _ _ e => e)
    | cons x l =>
      exact call_list_reprK h1 h2 h3 hna (by simpa using hk.length_eq) (fun i y e => hk.item i y (by simpa using e)) hg (fun b _ => Clear.nil b) hu hk0 hQ hz'
  | tup hq ha =>
    rename_i vs0 xs
    obtain ⟨its, rv, ⟨o, h1, h2, n, h3⟩, _⟩ := I.tuple hq
    have hz' : (tupleText (PyData.shownAll xs)).length ≤ sizeLine := by simpa only [PyData.shown] using hsz
    obtain ⟨bs, hb, hk⟩ := Dqs.rk (prog := prog) (w := w) I xs _ its ha rv (by simpa [PyData.showable] using hs) (fun t ht => Nat.le_trans (tupleText_mem_le ht) hz')
    have hna := not_mem_of_deeper r0 (by simp only [PyData.depth]; omega) hb
    refine ⟨"tuple", "tuple.__repr__", F.slot_tuple_repr, F.slot_tuple_str, F.slot_tuple_format, fun s hk0 => ⟨o, hk0 _ _ h1, h2⟩, fun A E s Q hg hu hk0 hQ => ?_⟩
    simp only [PyData.depth] at hu
    simp only [PyData.shown] at hQ
    exact call_tuple_reprK h1 h2 h3 hna hk hg (fun b _ => Clear.nil b) hu hk0 hQ hz'
  | dic hd =>
    obtain ⟨hsys, o, n, h1, h2, h3⟩ := dk0_at I hd
    refine ⟨"dict", "dict.__repr__", F.slot_dict_repr, F.slot_dict_str, F.slot_dict_format, fun s hk0 => ⟨o, hk0 _ _ h1, h2⟩, fun A E s Q hg hu hk0 hQ => ?_⟩
    simp only [PyData.depth] at hu
    simp only [PyData.shown, PyData.shownKv] at hQ
    exact call_dict_reprK (as := []) h1 h2 h3 hsys (by simp) .nil hg (fun b _ => Clear.nil b) hu hk0 hQ (by decide +kernel)
end
section
variable {X : Cx} {C : CallSem} {G : Nat → Option D} {W : WX} {pos : Pos} {n : Nat}
theorem bi_repr {cb : Bool} (cx : Ctx cb X) : CallR X (.builtin "repr") (rBi X.kw X.mg .repr) := by
  intro pins s σ H xs us Q I r ⟨W, m, S, ds, ra, rs, p⟩
  cases ds with
  | nil => exact p.elim
  | cons d ds =>
  cases ds with
  | cons _ _ => exact p.elim
  | nil =>
    obtain ⟨x, rfl, rx⟩ := rps1 rs
    obtain ⟨z, hz, p'⟩ := post_opt (show Post X.kw X.mg W (Rp X.kw X.mg) m H (R.opt (repD d S) S) Q from p)
    have hz' : ((toQ S 50 d).bind fun p => if repOk p then some (D.str p.shown) else none) = some z := hz
    cases hp : toQ S 50 d with
    | none => rw [hp] at hz'; cases hz'
    | some pd =>
      rw [hp] at hz'
      have hz2 : (if repOk pd then some (D.str pd.shown) else none) = some z := hz'
      by_cases c : repOk pd = true
      · rw [if_pos c] at hz2
        cases hz2
        unfold repOk at c
        simp only [Bool.and_eq_true, decide_eq_true_eq] at c
        obtain ⟨⟨⟨c1, c2⟩, c3⟩, c4⟩ := c
        have q : Q (.str pd.shown) H := p'.now ra (.str _)
        have dp := toQ_dq ra 50 d x pd rx hp
        obtain ⟨u, rfl, ru⟩ := vals1 r
        have ref : ∀ a, x = .ref a → wpAny (model X.prog X.w) X.A (call (.builtin "repr") [u]) (EP X pins σ Q) X.xe s := by
          intro a ea
          subst ea
          have ru' : u = Value.ref a := ru
          subst ru'
          have hu := cx.hu
          obtain ⟨T, idr, Sh⟩ := Dq.shows (prog := X.prog) (w := X.w) I dp c1 (Nat.le_trans (shown_le pd c1 c2) c4)
          exact call_repr_slot (by omega) (Sh.typeIs s (fun _ _ e => e)) Sh.slotRepr (Sh.call X.A.in1 X.xe s _ cx.g (by show X.A.units + 1 + pd.depth < cLine; omega) (fun _ _ e => e) fun h' t tk k => ⟨_, _, rfl, ⟨.str _, H, I.kept (t' := tk) k, ⟨t, rfl⟩, q⟩⟩)
        cases rx with
        | tup _ _ => exact ref _ rfl
        | loc _ => exact ref _ rfl
        | fl _ _ => exact ref _ rfl
        | fm _ _ _ _ => exact ref _ rfl
        | bd _ _ => exact ref _ rfl
        | bm _ _ _ _ => exact ref _ rfl
        | fd _ _ _ => exact ref _ rfl
        | int i =>
          obtain ⟨t, rfl⟩ := ru
          cases dp
          exact PySem.P.repr_of_int (of_decide_eq_true (by simpa only [PyData.showable] using c1)) ⟨.str _, H, I.tok _, ⟨_, rfl⟩, by simpa only [PyData.shown] using q⟩
        | bl b =>
          have ru' : u = Value.bool b := ru
          subst ru'
          cases dp
          exact PySem.P.repr_of_bool ⟨.str _, H, I.tok _, ⟨_, rfl⟩, by simpa only [PyData.shown] using q⟩
        | str y =>
          obtain ⟨t, rfl⟩ := ru
          cases dp
          have e := shown_le (.str y) c1 c2
          exact PySem.P.repr_of_str ⟨.str _, H, I.tok _, ⟨_, rfl⟩, by simpa only [PyData.shown] using q⟩ (Nat.le_trans (by simpa only [PyData.shown] using e) c4)
        | non =>
          have ru' : u = Value.none := ru
          subst ru'
          cases dp
          exact PySem.P.repr_of_none ⟨.str _, H, I.tok _, ⟨_, rfl⟩, by simpa only [PyData.shown] using q⟩
        | ty t => cases hp
        | fn h => cases hp
        | exn _ _ _ _ _ => cases hp
        | cls _ _ => cases hp
      · rw [if_neg c] at hz2
        cases hz2
structure ExTxt (K : PySem.W.Frag) (mg : Str → Option Value) (x : Str) : Prop where
  ex : ∃ Cl : Addr, mg x = some (.ref Cl) ∧ PySem.W.excIn K Cl [.type "ValueError", .type "Exception", .type "BaseException", .type "object"] "ValueError.__new__" = true ∧ PySem.W.keepIn K (.ref Cl) = true ∧
    PySem.W.subIn K (.ref Cl) (.type "BaseException") = some true ∧ PySem.W.typeIn K (.ref Cl) = some (.type "type")
theorem pmk_zero {Cl : Addr} {bmB : List Value} {B newId initId : String} {x : Str} {p pos' : Pos} (F : ExcBaseFacts B newId initId bmB) (q : PySem.W.excIn X.K Cl bmB newId = true) (gC : X.mg x = some (.ref Cl)) (kC : PySem.W.keepIn X.K (.ref Cl) = true) (r : Raises X (.ref Cl)) (hg : Gl X x)
    (hdb : (x == ("__debug__" : Str)) = false := by decide) : L2N.PMk X (.Call (.Name x p) [] [] pos') (fun _ H Q => Q (.ref Cl) none H) := by
  intro pins s σ H Q I h
  refine wpAny_Call_Name_kw (ld_glob I hg gC ?_ hdb)
  refine PySem.W.callWith_K0 I.kIn kC ?_
  show wpAny _ _ (call (.ref Cl) []) _ _ _
  obtain ⟨bm, N, nm, qn, bs, hdct, sn, sub, ab, col, dd, k0, k1, k2, k3, k5, mN, hC, hN, hni, T⟩ := exc_obj I.kIn q
  refine wpAny_call_exc_subT F T hC hN hni (fun h' e hm => ?_) (by show 0 ≤ sizeLine; omega)
  exact L2N.mk_of I hm r h (I.hok.gone hm.new)
theorem ds_raise0 {c : Nat} {x : Str} {p pos' pos2 : Pos} (hx : exNames[c]? = some x) (xt : ExTxt X.K X.mg x) (cx : Ctx true X) (tk : L2N.Takes X W) (hg : Gl X x) (hdb : (x == ("__debug__" : Str)) = false := by decide) :
    PS X (.Raise (some (.Call (.Name x p) [] [] pos')) none pos2) (tS X n C G W (.rse c .nil)) := by
  obtain ⟨Cl, gC, q, kC, sb, ty⟩ := xt.ex
  exact PS_imp (L2N.ps_raise (cx.calm rfl) tk (pmk_zero PySem.F.excBase_ValueError q gC kC (raises_own sb ty) hg hdb)) fun D' σ H ⟨m, ρ, S, ra, re, p⟩ => p m H σ (.ref Cl) none (Le.refl m H) ra re ⟨x, Cl, [], hx, gC, rfl, .inl ⟨rfl, rfl⟩, .nil⟩
end
theorem m_len : ("len" : Str) ∈ bnames := by decide +kernel
theorem m_abs : ("abs" : Str) ∈ bnames := by decide +kernel
theorem m_sum : ("sum" : Str) ∈ bnames := by decide +kernel
theorem m_min : ("min" : Str) ∈ bnames := by decide +kernel
theorem m_max : ("max" : Str) ∈ bnames := by decide +kernel
theorem m_all : ("all" : Str) ∈ bnames := by decide +kernel
theorem m_sorted : ("sorted" : Str) ∈ bnames := by decide +kernel
theorem m_repr : ("repr" : Str) ∈ bnames := by decide +kernel
theorem m_int : ("int" : Str) ∈ bnames := by decide +kernel
theorem m_str : ("str" : Str) ∈ bnames := by decide +kernel
theorem m_list : ("list" : Str) ∈ bnames := by decide +kernel
theorem m_tuple : ("tuple" : Str) ∈ bnames := by decide +kernel
theorem m_isinstance : ("isinstance" : Str) ∈ bnames := by decide +kernel
theorem m_bool : ("bool" : Str) ∈ bnames := by decide +kernel
theorem b_len : bootBuiltins "len" = some (.builtin "len") := by decide +kernel
theorem b_abs : bootBuiltins "abs" = some (.builtin "abs") := by decide +kernel
theorem b_sum : bootBuiltins "sum" = some (.builtin "sum") := by decide +kernel
theorem b_min : bootBuiltins "min" = some (.builtin "min") := by decide +kernel
theorem b_max : bootBuiltins "max" = some (.builtin "max") := by decide +kernel
theorem b_all : bootBuiltins "all" = some (.builtin "all") := by decide +kernel
theorem b_sorted : bootBuiltins "sorted" = some (.builtin "sorted") := by decide +kernel
theorem b_repr : bootBuiltins "repr" = some (.builtin "repr") := by decide +kernel
theorem b_int : bootBuiltins "int" = some (.type "int") := by decide +kernel
theorem b_str : bootBuiltins "str" = some (.type "str") := by decide +kernel
theorem b_list : bootBuiltins "list" = some (.type "list") := by decide +kernel
theorem b_tuple : bootBuiltins "tuple" = some (.type "tuple") := by decide +kernel
theorem b_isinstance : bootBuiltins "isinstance" = some (.builtin "isinstance") := by decide +kernel
theorem b_bool : bootBuiltins "bool" = some (.type "bool") := by decide +kernel
end CC
namespace CC
open PySem PySem.Spec PyProof.Rows L2
structure FnTxt (K : PySem.W.Frag) (mg : Str → Option Value) (x : Str) (st : Stmt) (ps : List Str) (kw : List (Nat × List Str × List Nat)) : Prop where
  ex : ∃ (f : Addr) (fd : FuncData), mg x = some (.ref f) ∧ (∃ y, Fun K y y st f fd) ∧ Binds K fd ps [] ∧ ∀ q ∈ kw, KB fd ps q
theorem at_zero {P : Program} {w : World} {K : PySem.W.Frag} {mg : Str → Option Value} {base : Heap} {k : Nat} {x : Str} {st : Stmt} {ps : List Str} {kw : List (Nat × List Str × List Nat)} (t : FnTxt K mg x st ps kw) (cs : List D → Sto → R D) (hz : ∀ ds S, cs ds S = .bad) : FnAt P w K mg base k x ps.length kw cs := by
  obtain ⟨f, fdd, hm, ⟨_, F⟩, hb, hkb⟩ := t.ex
  exact ⟨f, fdd, ps, hm, F.kp, rfl, hb, hkb, ⟨fun ds S h => absurd (hz ds S) h, fun A outer s H args us vs m ds S Q E _ _ _ _ _ _ _ p => by rw [hz] at p; exact p.elim⟩⟩
section
variable {K : PySem.W.Frag} {mg : Str → Option Value} {h : Heap} {w : World}
theorem fnTxt_of {x y : Str} {d : He.FnD} {st : Stmt} {ps : List Str} {kw : List (Nat × List Str × List Nat)} (X : K.In h) (G0 : h.Ns mainGlobals mg) (c1 : (He.Fa.glo x).ok K = true) (c2 : (He.Fa.keep x).ok K = true)
    (c : ∃ oc od osl kV doc pm an cdv ct, K.lookup (He.fAd K d.at_) = some ⟨oc, od, .func (PySem.W.fnOf d.name d.qual d.params d.body d.scope .none kV doc pm an cdv ct), osl⟩ ∧ PySem.W.codeIn K cdv d.qual = true)
    (hb : ∀ (kV doc pm : Value) (an : Option Addr) (cdv ct : Value) (us : List Value), us.length = ps.length → bindArgs (PySem.W.fnOf y y (defArgs st) (defBody st) (defScope st) .none kV doc pm an cdv ct) ⟨us, []⟩ = pure (ps.zip us))
    (hkb : ∀ (kV doc pm : Value) (an : Option Addr) (cdv ct : Value) q, q ∈ kw → KB (PySem.W.fnOf y y (defArgs st) (defBody st) (defScope st) .none kV doc pm an cdv ct) ps q)
    (hd : d = ⟨(x, none), y, y, defArgs st, defBody st, defScope st⟩ := by rfl) : FnTxt K mg x st ps kw := by
  subst hd
  obtain ⟨oc, od, osl, kV, doc, pm, an, cdv, ct, l, c⟩ := c
  have F := fun_mk (st := st) l c (He.keep_ok c2)
  exact ⟨_, _, He.glo_ok X G0 c1, ⟨_, F⟩, F.binds hb, fun q hq => hkb kV doc pm an cdv ct q hq⟩
theorem exTxt_of {x : Str} (X : K.In h) (G0 : h.Ns mainGlobals mg) (c1 : (He.Fa.glo x).ok K = true) (c2 : (He.Fa.exc x).ok K = true) : ExTxt K mg x := by
  obtain ⟨a, b, c, d⟩ := He.exc_ok c2
  exact ⟨_, He.glo_ok X G0 c1, a, b, c, d⟩
theorem nob_at {fa : List He.Fa} {fn : List He.FnD} (X : K.In h) (G0 : h.Ns mainGlobals mg) (c : He.SaysE fa fn K) (n : Nat) (e : ∀ i y, bnames[i]? = some y → fa[n + i]? = some (.free y)) {x : Str} (hx : x ∈ bnames) : mg x = none := by
  obtain ⟨i, hi⟩ := List.getElem?_of_mem hx
  exact He.free_ok X G0 (c.fact (n + i) (e i x hi))
end
section
variable {X : Cx} {C : CallSem} {G : Nat → Option D} {W : WX} {pos : Pos} {n : Nat}
theorem Ctx.tr {cb : Bool} (c : Ctx cb X) (pn : List (Addr × Obj)) (xe : Value → Shared → Prop) : Ctx cb (X.tr pn xe) := ⟨c.calm, c.hu, c.nd, c.g, c.nob, c.wm⟩
end
mutual
def valK (K : PySem.W.Frag) : D → Value → Bool
  | .str x, .str y _ => decide (x = y)
  | .int x, .int y _ => decide (x = y)
  | .tup ds, .ref a => (match K.lookup a with
    | some ⟨.type c, _, .seq its _, _⟩ => decide (c = "tuple") && (decide (its.size ≤ sizeLine) && valKs K ds its.toList)
    | _ => false)
  | _, _ => false
def valKs (K : PySem.W.Frag) : List D → List Value → Bool
  | [], [] => true
  | d :: ds, u :: us => valK K d u && valKs K ds us
  | _, _ => false
end
section
variable {K : PySem.W.Frag} {mg : Str → Option Value} {w : World}
mutual
theorem valK_ok : ∀ (d : D) (u : Value), valK K d u = true → ∃ v, RelV v u ∧ ∀ m H, Rp ⟨K, w, none⟩ mg m H d v
  | .str x, u, h => by
    cases u with
    | str y t =>
      unfold valK at h
      have e := of_decide_eq_true h
      subst e
      exact ⟨.str x, ⟨t, rfl⟩, fun m H => .str x⟩
    | _ => simp [valK] at h
  | .int x, u, h => by
    cases u with
    | int y t =>
      unfold valK at h
      have e := of_decide_eq_true h
      subst e
      exact ⟨.int x, ⟨t, rfl⟩, fun m H => .int x⟩
    | _ => simp [valK] at h
  | .tup ds, u, h => by
    cases u with
    | ref a =>
      unfold valK at h
      split at h
      · rename_i c od its n osl q
        simp only [Bool.and_eq_true, decide_eq_true_eq] at h
        obtain ⟨h1, h2, h3⟩ := h
        obtain ⟨vs, r, hv⟩ := valKs_ok ds its.toList h3
        exact ⟨.ref a, rfl, fun m H => .tup (.inr ⟨_, its, n, q, congrArg Value.type h1, rfl, h2, r⟩) (hv m H)⟩
      · cases h
    | _ => simp [valK] at h
  | .non, u, h => by cases u <;> simp [valK] at h
  | .bl _, u, h => by cases u <;> simp [valK] at h
  | .loc _, u, h => by cases u <;> simp [valK] at h
  | .ty _, u, h => by cases u <;> simp [valK] at h
  | .fn _, u, h => by cases u <;> simp [valK] at h
theorem valKs_ok : ∀ (ds : List D) (us : List Value), valKs K ds us = true → ∃ vs, Vals vs us ∧ ∀ m H, Rps ⟨K, w, none⟩ mg m H ds vs
  | [], [], _ => ⟨[], .nil, fun _ _ => .nil⟩
  | [], _ :: _, h => by simp [valKs] at h
  | _ :: _, [], h => by simp [valKs] at h
  | d :: ds, u :: us, h => by
    unfold valKs at h
    simp only [Bool.and_eq_true] at h
    obtain ⟨v, r, hv⟩ := valK_ok d u h.1
    obtain ⟨vs, rs, hvs⟩ := valKs_ok ds us h.2
    exact ⟨v :: vs, .cons r rs, fun m H => .cons (hv m H) (hvs m H)⟩
end
end
def ciK (K : PySem.W.Frag) (A : Addr) : Bool := decide (PySem.W.findIn K (.ref A) "__getattribute__" = some (some (.builtin "BaseException.__getattribute__"))) && (decide (PySem.W.findIn K (.ref A) "__getattr__" = some none) &&
  (decide (PySem.W.subIn K (.ref A) (.type "BaseException") = some true) && (PySem.W.hasDictIn K A && (decide (PySem.W.findIn K (.ref A) "__class__" = some (some (.builtin "object.__class__"))) &&
  (decide (PySem.W.specialIn K (.builtin "object.__class__") "__get__" = some (some (.builtin "getset_descriptor.__get__"))) && (decide (PySem.W.takesIn K (.builtin "object.__class__") = some true) && decide (PySem.W.mroIn K A (.type "object") = some true)))))))
def clsK (K : PySem.W.Frag) (c : Nat) : Bool := match exNames[c]? with
  | none => true
  | some x => match PySem.W.nsIn K mainGlobals x with
    | some none => true
    | some (some (.ref A)) => ciK K A && (decide (PySem.W.kitOne K (.ref A) (.type "ValueError") = some true) && (List.range 11).all fun k => match exNames[k]? with
      | none => true
      | some y => match PySem.W.nsIn K mainGlobals y with
        | some none => true
        | some (some (.ref B)) => decide (PySem.W.kitOne K (.ref A) (.ref B) = some (subX c k))
        | _ => false)
    | _ => false
def xAll (K : PySem.W.Frag) : Bool := (List.range 11).all fun c => clsK K c
def conK (K : PySem.W.Frag) (q : Str × D) : Bool := match PySem.W.nsIn K mainGlobals q.1 with
  | some (some u) => valK K q.2 u
  | _ => false
theorem conK_ok {K : PySem.W.Frag} {mg : Str → Option Value} {h : Heap} {w : World} (X : K.In h) (G0 : h.Ns mainGlobals mg) {x : Str} {d : D} (c : conK K (x, d) = true) : ∃ u v, mg x = some u ∧ RelV v u ∧ ∀ m H, Rp ⟨K, w, none⟩ mg m H d v := by
  unfold conK at c
  split at c
  · rename_i u q
    obtain ⟨v, r, hv⟩ := valK_ok d u c
    exact ⟨u, v, PySem.W.mg_of X G0 q, r, hv⟩
  · cases c
def tabK (K : PySem.W.Frag) (q : Str × List (Str × D)) : Bool := q.2.all fun r => match PySem.W.nsIn K (He.ga K q.1) r.1 with
  | some (some u) => valK K r.2 u
  | _ => false
structure GdTxt (K : PySem.W.Frag) (mg : Str → Option Value) (w : World) (x : Str) (t : List (Str × D)) : Prop where
  ex : ∃ (d : Addr) (es : Array DictEntry) (n : Nat), mg x = some (.ref d) ∧ KDict K w d es n ∧ ∀ z dv, t.lookup z = some dv → ∃ u0 v0, PySem.W.nsIn K d z = some (some u0) ∧ RelV v0 u0 ∧ ∀ m H, Rp ⟨K, w, none⟩ mg m H dv v0
theorem lookup_in {α β : Type} [BEq α] [LawfulBEq α] {a : α} {b : β} : ∀ {l : List (α × β)}, l.lookup a = some b → (a, b) ∈ l
  | [], h => by cases h
  | (x, y) :: l, h => by
    rw [List.lookup_cons] at h
    by_cases e : (a == x) = true
    · rw [e] at h
      cases h
      rw [eq_of_beq e]
      exact List.mem_cons_self
    · rw [Bool.eq_false_iff.mpr e] at h
      exact List.mem_cons_of_mem _ (lookup_in h)
theorem gdTxt_of {K : PySem.W.Frag} {mg : Str → Option Value} {h : Heap} {w : World} {x : Str} {t : List (Str × D)} (X : K.In h) (G0 : h.Ns mainGlobals mg) (c : (He.Fa.glo x).ok K = true) (kd : ∃ es n, KDict K w (He.ga K x) es n) (ct : tabK K (x, t) = true) : GdTxt K mg w x t := by
  obtain ⟨es, n, kd⟩ := kd
  refine ⟨_, es, n, He.glo_ok X G0 c, kd, fun z dv hz => ?_⟩
  have := List.all_eq_true.mp ct _ (lookup_in hz)
  split at this
  · rename_i u q
    obtain ⟨v, r, hv⟩ := valK_ok (mg := mg) dv u this
    exact ⟨u, v, q, r, hv⟩
  · cases this
section
variable {X : Cx} {C : CallSem} {G : Nat → Option D} {W : WX} {pos : Pos} {n : Nat}
theorem de_gdx {x : Str} {p : Pos} {e : Expr} {t : List (Str × D)} {A : Xp} (gt : GdTxt X.K X.mg X.w x t) (hg : Gl X x) (he : PE X e (tD X C G W A)) (hs : PlainIx e := by exact fun _ _ => rfl) (hd : (x == ("__debug__" : Str)) = false := by decide) :
    PE X (.Subscript (.Name x p) e pos) (tD X C G W (.gdx t A)) := by
  obtain ⟨d, es, n, hm, kd, ht⟩ := gt.ex
  refine PE_imp (pe_ix ix_kdict (pe_glob hg hm (v := .ref d) rfl hd) he hs) fun σ H Q ⟨m, ρ, S, ra, re, p⟩ => ?_
  have p0 : Post X.kw X.mg (fun c d H' => W c d σ H') (Rp X.kw X.mg) m H ((ev C G A ρ S).bind fun x S1 => match x with
    | .str z => R.opt (t.lookup z) S1
    | _ => .bad) Q := p
  refine ⟨m, ρ, S, ra, re, Post.imp (Post.bind p0) fun y H2 ⟨m2, d2, S2, l2, ra2, r2, p2⟩ => ?_⟩
  cases d2 with
  | str z =>
    cases r2
    obtain ⟨dv, hz, p3⟩ := post_opt p2
    obtain ⟨u0, v0, h1, h2, h3⟩ := ht z dv hz
    exact ⟨d, z, v0, rfl, rfl, ⟨es, n, u0, kd.at_, kd.lit, h1, h2⟩, p3.now ra2 (h3 m2 H2).kw⟩
  | _ => exact p2.elim
end
def oexB (K : PySem.W.Frag) (C : Addr) : Bool := (match K.lookup C with
  | some ⟨.type "type", _, .cls cd, sl⟩ => (match cd.mro, sl.toList with
    | .ref C' :: bm, [_, _, _, _, some (.builtin n), _] => decide (C' = C) && (decide (n = "ValueError.__new__") && (!cd.hasDel && (cd.hasDict && PySem.HandSPX.refsVE bm)))
    | _, _ => false)
  | _ => false) && (decide (PySem.W.findIn K (.ref C) "__setattr__" = some (some (.builtin "object.__setattr__"))) && (decide (PySem.W.subIn K (.ref C) (.type "BaseException") = some true) && (decide (PySem.W.typeIn K (.ref C) = some (.type "type")) && PySem.W.keepIn K (.ref C))))
def conX (K : PySem.W.Frag) (q : Str × D) : Bool := match q.2 with
  | .cls 0 => xAll K
  | .cls (_ + 1) => oexB K (He.ga K q.1) && xfB K (He.ga K q.1)
  | .ty _ => match PySem.W.nsIn K cStatics "sys.int_max_str_digits" with
    | some none => true
    | _ => false
  | _ => conK K q
theorem conS {K : PySem.W.Frag} {q : Str × D} (c : conX K q = true) (h : (match q.2 with
  | .cls _ => false
  | .ty _ => false
  | _ => true) = true := by rfl) : conK K q = true := by
  obtain ⟨x, d⟩ := q
  cases d with
  | cls _ => cases h
  | ty _ => cases h
  | _ => exact c
abbrev AlC : Type := He.Al × (List (Option (List (Option (Str × Int)))) × Bool)
def exK (cs : List (Str × D)) (ts : List (Str × List (Str × D))) (K : PySem.W.Frag) : Bool := (cs.all fun q => conX K q) && ts.all fun q => tabK K q
def obsC (fa : List He.Fa) (fn : List He.FnD) (cs : List (Str × D)) (ts : List (Str × List (Str × D))) (K : PySem.W.Frag) : AlC := (He.obsE fa fn K, (ts.map fun t => He.dicW K (He.ga K t.1), exK cs ts K))
def valC (fn : List He.FnD) (ts : List (Str × List (Str × D))) (w : World) : AlC := (He.valE fn, (ts.map fun t => some (He.keysIn w.params (t.2.map (·.1))), true))
def SaysC (fa : List He.Fa) (fn : List He.FnD) (cs : List (Str × D)) (ts : List (Str × List (Str × D))) (w : World) (K : PySem.W.Frag) : Prop := obsC fa fn cs ts K = valC fn ts w
def frontG (g : Addr → Option Obj) : Nat → List Addr → List Addr
  | 0, f => f
  | n + 1, f => f ++ frontG g n (f.flatMap fun a => match g a with
    | some o => He.refsO o
    | none => [])
def extraA (cs : List (Str × D)) : List Addr := if (cs.any fun q => match q.2 with
  | .ty _ => true
  | _ => false) = true then [cStatics] else []
def obsCG (n : Nat) (fa : List He.Fa) (fn : List He.FnD) (cs : List (Str × D)) (ts : List (Str × List (Str × D))) (g : Addr → Option Obj) : AlC := obsC fa fn cs ts (He.frG g (frontG g n [mainGlobals] ++ extraA cs))
def hookC (n : Nat) (fa : List He.Fa) (fn : List He.FnD) (cs : List (Str × D)) (ts : List (Str × List (Str × D))) : PySem.W.Hook where
  α := AlC
  obs := fun s => obsCG n fa fn cs ts s.heap.get?
  val := fun w => valC fn ts w
  says := fun w h => ∃ K : PySem.W.Frag, K.In h ∧ SaysC fa fn cs ts w K
  of := fun _ _ e => ⟨_, He.frG_in, e⟩
  keeps := fun _ _ _ ⟨K, hK, c⟩ k => ⟨K, PySem.W.Frag.In.keeps hK k, c⟩
theorem obsCG_eq {n : Nat} {fa : List He.Fa} {fn : List He.FnD} {cs : List (Str × D)} {ts : List (Str × List (Str × D))} {g : Addr → Option Obj} {s : Shared} (h : ∀ a, g a = s.heap.get? a) : obsCG n fa fn cs ts g = (hookC n fa fn cs ts).obs s := by
  have e : g = s.heap.get? := funext h
  rw [e] <;> rfl
section
variable {fa : List He.Fa} {fn : List He.FnD} {cs : List (Str × D)} {ts : List (Str × List (Str × D))} {w : World} {K : PySem.W.Frag}
theorem SaysC.e (c : SaysC fa fn cs ts w K) : He.SaysE fa fn K := congrArg (fun z : AlC => z.1) c
theorem SaysC.con (c : SaysC fa fn cs ts w K) (i : Nat) {q : Str × D} (h : cs[i]? = some q := by rfl) : conX K q = true := by
  have e : exK cs ts K = true := congrArg (fun z : AlC => z.2.2) c
  unfold exK at e
  simp only [Bool.and_eq_true] at e
  exact List.all_eq_true.mp e.1 q (List.mem_of_getElem? h)
theorem SaysC.tabv (c : SaysC fa fn cs ts w K) (i : Nat) {q : Str × List (Str × D)} (h : ts[i]? = some q := by rfl) : tabK K q = true := by
  have e : exK cs ts K = true := congrArg (fun z : AlC => z.2.2) c
  unfold exK at e
  simp only [Bool.and_eq_true] at e
  exact List.all_eq_true.mp e.2 q (List.mem_of_getElem? h)
theorem SaysC.tab (c : SaysC fa fn cs ts w K) (i : Nat) {t : Str × List (Str × D)} (h : ts[i]? = some t := by rfl) : ∃ es n, KDict K w (He.ga K t.1) es n := by
  have e : (ts.map fun t => He.dicW K (He.ga K t.1)) = ts.map fun t => some (He.keysIn w.params (t.2.map (·.1))) := congrArg (fun z : AlC => z.2.1) c
  have e2 : (ts.map fun t => He.dicW K (He.ga K t.1))[i]? = (ts.map fun t => some (He.keysIn w.params (t.2.map (·.1))))[i]? := by rw [e]
  rw [List.getElem?_map, List.getElem?_map, h] at e2
  exact He.dicW_ok (Option.some.inj e2)
end
end CC
namespace CC
open PySem PySem.Spec PyProof.Rows L2
section
variable {X : Cx} {pins : List (Addr × Obj)} {σ : L2.St} {H : Hp} {s : Shared}
theorem adopt {a : Addr} {o : HO} {oe : Obj} {vs : Array Value} (I : Inv X pins σ H s) (ha : s.heap.get? a = some oe) (hd : oe.data = .fields vs) (na : H a = none) (n0 : X.s_0.heap.get? a = none) (nL : a ≠ X.env.locals) (np : ∀ p ∈ X.pn ++ pins, p.1 ≠ a) (hok : ObjOk X.prog X.w (upd H a o) s.heap a o) : Inv X pins σ (upd H a o) s := by
  have ne0 : ∀ b u, X.s_0.heap.get? b = some u → b ≠ a := fun b u e z => by rw [z, n0] at e; cases e
  have neH : ∀ b u, H b = some u → b ≠ a := fun b u e z => by rw [z, na] at e; cases e
  refine ⟨I.ok, I.os, I.bare, ⟨I.base.keep, I.base.slot, fun b u e n hx => ?_, I.base.there, fun b xs e => ?_, fun b u xs e => ?_, fun b ps e => ?_⟩, I.loc, I.cell, ?_, fun x c e => ?_, fun p hp => ?_, fun b u e => ?_, I.len⟩
  · rw [upd_ne (ne0 b u e)]
    exact I.base.free b u e n hx
  · have q := I.base.tups b xs e
    rw [upd_ne (neH b _ q)]
    exact q
  · have q := I.base.frzs b u xs e
    rw [upd_ne (neH b _ q)]
    exact q
  · obtain ⟨m, q⟩ := I.base.tbls b ps e
    exact ⟨m, by rw [upd_ne (neH b _ q)]; exact q⟩
  · rw [upd_ne (Ne.symm nL)]
    exact I.free
  · have hc : c ≠ a := fun z => by
      obtain ⟨v, oc, ho, hdc⟩ := I.cell x c e
      rw [z, ha] at ho
      cases ho
      rw [hd] at hdc
      cases hdc
    rw [upd_ne hc]
    exact I.freeC x c e
  · obtain ⟨e, n, r⟩ := I.pin p hp
    exact ⟨e, by rw [upd_ne (np p hp)]; exact n, r⟩
  · by_cases hb : b = a
    · subst hb
      rw [upd_same] at e
      cases e
      exact hok
    · rw [upd_ne hb] at e
      exact (I.hok b u e).stay (fun c v _ q => q) (fun c q => by rw [upd_ne (ne_of_none q na)]; exact q) fun c xs q => by rw [upd_ne (ne_of_none q na)]; exact q
end
structure Caught (X : Cx) (pins : List (Addr × Obj)) (σ : L2.St) (H : Hp) (a : Addr) (cls : Value) (d : Option Addr) (B : Heap) (sI s : Shared) : Prop where
  I : Inv X pins σ H sI
  nb : ∀ b o, sI.heap.get? b = some o → b ∉ frs X.stack → B.get? b = some o
  up : sI.heap.UpToSlots s.heap
  fl : HandSPX.FlyingZ B (X.env :: X.outer) a (L2N.Zn cls d) s.heap
  na : H a = none
  os : s.os = sI.os
  ag : AllBare s.gens
section
variable {X : Cx} {pins : List (Addr × Obj)} {σ : L2.St} {H : Hp} {sI s : Shared} {a : Addr} {cls : Value} {d : Option Addr} {B : Heap}
theorem Caught.inv (c : Caught X pins σ H a cls d B sI s) : Inv X pins σ H s := c.I.landed c.nb c.fl.1 c.up c.os c.ag
theorem Caught.more (c : Caught X pins σ H a cls d B sI s) {h : Heap} (fl : HandSPX.FlyingZ B (X.env :: X.outer) a (L2N.Zn cls d) h) (up : s.heap.UpToSlots h) : Caught X pins σ H a cls d B sI { s with heap := h } := ⟨c.I, c.nb, c.up.trans up, fl, c.na, c.os, c.ag⟩
theorem Caught.fr (c : Caught X pins σ H a cls d B sI s) : a ∉ frs (X.env :: X.outer) := fun hm => by
  obtain ⟨oe, vs, he, _, hd⟩ := c.fl.there
  obtain ⟨_, o', e', hnf⟩ := c.fl.2.2.1.mem hm
  rw [he] at e'
  cases e'
  exact hnf _ hd
theorem Caught.old (c : Caught X pins σ H a cls d B sI s) (hs : X.stack = X.env :: X.outer) : sI.heap.get? a = none := by
  cases e : sI.heap.get? a with
  | none => rfl
  | some o =>
    have z := c.nb a o e (by rw [hs]; exact c.fr)
    rw [c.fl.2.1] at z
    cases z
theorem Caught.n0 (c : Caught X pins σ H a cls d B sI s) (hs : X.stack = X.env :: X.outer) (hx : X.ex = []) : X.s_0.heap.get? a = none := by
  cases e : X.s_0.heap.get? a with
  | none => rfl
  | some o =>
    obtain ⟨o', z⟩ := c.I.base.there a o e (by rw [hx]; exact fun z => nomatch z)
    rw [c.old hs] at z
    cases z
theorem Caught.np (c : Caught X pins σ H a cls d B sI s) (hs : X.stack = X.env :: X.outer) : ∀ p ∈ X.pn ++ pins, p.1 ≠ a := fun p hp z => by
  have e := (c.I.pin p hp).1
  rw [z, c.old hs] at e
  cases e
theorem Caught.nL (c : Caught X pins σ H a cls d B sI s) (hf : X.env.frame = some X.env.locals) : a ≠ X.env.locals := fun z => c.fr (List.mem_filterMap.mpr ⟨X.env, List.mem_cons_self, by rw [hf, z]⟩)
end
section
variable {X : Cx} {pins : List (Addr × Obj)} {σ : L2.St} {H : Hp} {sI s : Shared} {a : Addr} {cls : Value} {d : Option Addr} {B : Heap}
variable {x n : Str} {c : Value} {i : Nat} {suite : List Stmt} {b₀ : Stmt} {np pos' : Pos} {rest : List ExceptHandler} {D : Ends} {b : Bool} {t : TS}
def unE (D : Ends) (i : Nat) : Ends := { nx := fun σ' H' => D.nx (σ'.set i none) H', rt := D.rt, bk := fun σ' H' => D.bk (σ'.set i none) H', ct := fun σ' H' => D.ct (σ'.set i none) H' }
end
theorem takes0 {X : Cx} : L2N.Takes X (fun _ _ _ _ => False) := fun _ _ ⟨_, _, _, _, _, _, _, _, _, _, _, _, _, _, _, _, w⟩ => w.elim
abbrev Wno : WX := fun _ _ _ _ => False
section
variable {K : KW} {mg : Str → Option Value} {m : Mp} {H : Hp} {W : WX} {D : Ends} {r : Rs}
theorem PostS.suite {i : Nat} (h : PostS K mg W m H (suiteR (some i) r) D) : PostS K mg Wno m H r (unE D i) := by
  cases r with
  | nx ρ S => exact fun m' H' σ l ra re => h m' H' _ l ra (re.clear i)
  | bk ρ S => exact fun m' H' σ l ra re => h m' H' _ l ra (re.clear i)
  | ct ρ S => exact fun m' H' σ l ra re => h m' H' _ l ra (re.clear i)
  | rt d S => exact h
  | exc c p ρ S => exact h.elim
  | bad => exact h
theorem PostS.kw {f : PySem.W.Frag} {w : World} {x y : Option Addr} {mg : Str → Option Value} {m : Mp} {H : Hp} {W : WX} {D : Ends} {r : Rs} (hx : HotH x H) (h : PostS ⟨f, w, x⟩ mg W m H r D) : PostS ⟨f, w, y⟩ mg W m H r D := by
  cases r with
  | nx ρ S => exact fun m' H' σ l ra re => h m' H' _ l (ra.kw (hx.mono l.fz)) re.kw
  | bk ρ S => exact fun m' H' σ l ra re => h m' H' _ l (ra.kw (hx.mono l.fz)) re.kw
  | ct ρ S => exact fun m' H' σ l ra re => h m' H' _ l (ra.kw (hx.mono l.fz)) re.kw
  | rt d S => exact fun m' H' v l ra r => h m' H' _ l (ra.kw (hx.mono l.fz)) r.kw
  | exc c p ρ S => exact fun m' H' σ cls dd l ra re rx => h m' H' _ _ _ l (ra.kw (hx.mono l.fz)) re.kw rx.kw
  | bad => exact h.elim
end
end CC
namespace CC
open PySem PySem.Spec PyProof.Rows L2
theorem Ctx.suite {X : Cx} {cb : Bool} (c : Ctx cb X) (a : Addr) (pn : List (Addr × Obj)) : Ctx false (X.suite a pn) := ⟨fun z => Bool.noConfusion z, c.hu, c.nd, c.g, c.nob, .inr ⟨a, rfl⟩⟩
theorem GOk.kw {f : PySem.W.Frag} {w : World} {x y : Option Addr} {mg : Str → Option Value} {gn : List Str} {G : Nat → Option D} (h : GOk ⟨f, w, x⟩ mg gn G) : GOk ⟨f, w, y⟩ mg gn G := fun i z d h1 h2 => by
  obtain ⟨u, v, e1, e2, e3⟩ := h i z d h1 h2
  exact ⟨u, v, e1, e2, fun m H => (e3 m H).kw⟩
end CC
namespace CC
open PySem PySem.Spec PyProof.Rows L2
def WarmAt (A : Around) (h : Heap) : Prop := A.handled = none ∨ ∃ x, HotX.HotAt A x h
theorem WarmAt.mono {A : Around} {h h' : Heap} (w : WarmAt A h) (k : ∀ (b : Addr) (o : Obj) (vs : Array Value), h.get? b = some o → o.data = .fields vs → vs[2]? = some .none → h'.get? b = some o) : WarmAt A h' := by
  rcases w with w | ⟨x, e, o, vs, g, d, c⟩
  · exact .inl w
  · exact .inr ⟨x, e, o, vs, k x o vs g d c, d, c⟩
section
variable {prog : Program} {w : World} {A : Around} {E : Value → Shared → Prop} {s : Shared}
theorem WarmAt.iter {it : Addr} {o : Obj} {v1 v2 : Value} {h h' : Heap} (wm : WarmAt A h) (e : h.get? it = some o) (d : o.data = .fields #[v1, v2]) (k : ∀ b u, b ≠ it → h.get? b = some u → h'.get? b = some u) : WarmAt A h' :=
  wm.mono fun b u vs g gd c => k b u (fun z => by
    subst z
    rw [e] at g
    cases g
    rw [d] at gd
    cases gd
    cases c) g
end
end CC
namespace CC
open PySem PySem.Spec PyProof.Rows L2
section
variable {X : Cx} {C : CallSem} {G : Nat → Option D} {W : WX}
theorem RelE.put {K : KW} {mg : Str → Option Value} {m : Mp} {H : Hp} {σ : L2.St} {ρ : Env} {i : Nat} {v : V} {d : D} (re : RelE K mg m H σ ρ) (e : σ[i]? = some (some v)) (r : Rp K mg m H d v) : RelE K mg m H σ (ρ.set i (some d)) := by
  refine ⟨by rw [List.length_set, re.len], fun j d' h => ?_⟩
  by_cases hij : i = j
  · subst hij
    by_cases hl : i < ρ.length
    · rw [List.getElem?_set_self hl] at h
      cases h
      exact ⟨v, e, r⟩
    · rw [List.getElem?_eq_none (by simpa using hl)] at h
      cases h
  · rw [List.getElem?_set_ne hij] at h
    exact re.at_ j d' h
theorem RelE.take {K : KW} {mg : Str → Option Value} {m : Mp} {H : Hp} {σ : L2.St} {ρ : Env} {k : Nat} (re : RelE K mg m H σ ρ) (h : envLt k ρ = true) : RelE K mg (m.take k) H σ ρ := by
  refine ⟨re.len, fun j d e => ?_⟩
  obtain ⟨v, h1, h2⟩ := re.at_ j d e
  have := List.all_eq_true.mp h _ (List.mem_of_getElem? e)
  exact ⟨v, h1, h2.take k this⟩
theorem ds_fz {st : Stmt} {n i : Nat} {B : Sx} (h : PS X st (tS X n C G W B)) : PS X st (tS X n C G W (.fz i B)) := by
  refine ⟨fun pins s σ H D' I ⟨m, ρ, S, ra, re, p⟩ => ?_⟩
  have p0 : PostS X.kw X.mg W m H (match run n C G B ρ S with
    | .nx ρ1 S1 => fzE i S ρ1 S1
    | r => r) D' := p
  cases hr : run n C G B ρ S with
  | bad => rw [hr] at p0; exact p0.elim
  | rt d S1 => rw [hr] at p0; exact h.run pins s σ H D' I ⟨m, ρ, S, ra, re, by rw [hr]; exact p0⟩
  | bk ρ1 S1 => rw [hr] at p0; exact h.run pins s σ H D' I ⟨m, ρ, S, ra, re, by rw [hr]; exact p0⟩
  | ct ρ1 S1 => rw [hr] at p0; exact h.run pins s σ H D' I ⟨m, ρ, S, ra, re, by rw [hr]; exact p0⟩
  | exc c q ρ1 S1 => rw [hr] at p0; exact h.run pins s σ H D' I ⟨m, ρ, S, ra, re, by rw [hr]; exact p0⟩
  | nx ρ1 S1 =>
    rw [hr] at p0
    have p1 : PostS X.kw X.mg W m H (fzE i S ρ1 S1) D' := p0
    refine thn (h.run pins s σ H { D' with nx := fun σ' H' => ∃ m', Le m m' H H' ∧ RelA X.kw X.mg m' H' S1 ∧ RelE X.kw X.mg m' H' σ' ρ1 } I ⟨m, ρ, S, ra, re, by rw [hr]; exact fun m' H' σ' l ra' re' => ⟨m', l, ra', re'⟩⟩) fun f s1 q => ?_
    cases f with
    | brk => exact q
    | cont => exact q
    | ret v => exact q
    | next =>
      obtain ⟨σ', H', I2, m', l, ra', re'⟩ := q
      cases he : ρ1[i]?.bind id with
      | none => unfold fzE at p1; rw [he] at p1; exact p1.elim
      | some d =>
        have hd : ρ1[i]? = some (some d) := by
          cases q1 : ρ1[i]? with
          | none => rw [q1] at he; cases he
          | some o => rw [q1] at he; exact congrArg some he
        obtain ⟨v, hv, rv⟩ := re'.at_ i d hd
        have fin : ∀ {d2 : D} {S2 : Sto} {H2 : Hp}, frzD d S1 = .ok d2 S2 → Le m m' H H2 → RelA X.kw X.mg m' H2 S2 → RelE X.kw X.mg m' H2 σ' ρ1 → Rp X.kw X.mg m' H2 d2 v → D'.nx σ' H2 := fun {d2 S2 H2} e l2 ra2 re2 rp2 => by
          unfold fzE at p1
          rw [he] at p1
          simp only [e] at p1
          have re3 := re2.put hv rp2
          unfold cutS at p1
          by_cases c : envLt S.length (ρ1.set i (some d2)) = true ∧ keepS S S2
          · rw [if_pos c] at p1
            exact p1 (m'.take m.length) H2 σ' l2.cut (ra.cut l2 ra2 c.2) (re3.take (by rw [ra.len]; exact c.1))
          · rw [if_neg c] at p1
            exact p1 m' H2 σ' l2 ra2 re3
        have keep : frzD d S1 = .ok d S1 → ∃ σ'' H'', Inv X pins σ'' H'' s1 ∧ D'.nx σ'' H'' := fun e => ⟨σ', H', I2, fin e l ra' re' rv⟩
        cases rv with
        | @loc k a b t =>
          cases q : S1[k]? with
          | none => exact keep (by unfold frzD; simp only [q])
          | some so =>
            cases so with
            | lst ds =>
              obtain ⟨vs, hb, g1, g2⟩ := ra'.at_ k (a, b) _ t q
              have hb' : b = false := hb
              subst hb'
              obtain ⟨od, I3⟩ := I2.lock g1 trivial
              have l2 : Le m' m' H' (upd H' a (.frz od (.lst vs))) := Le.writeO t g1 trivial
              exact ⟨σ', _, I3, fin (d2 := .fl ds) (S2 := S1.set k (.frz ds)) (by unfold frzD; simp only [q]) (l.trans l2) (ra'.writeO t g1 trivial ⟨vs, .inl ⟨rfl, od, upd_same⟩, g2.mono l2⟩) (re'.mono l2) (.fl upd_same (g2.mono l2))⟩
            | dic kvs =>
              obtain ⟨ks, hb, g1, g2⟩ := ra'.at_ k (a, b) _ t q
              have hb' : b = false := hb
              subst hb'
              obtain ⟨od, I3⟩ := I2.lock g1 trivial
              have l2 : Le m' m' H' (upd H' a (.frz od (.dK ks))) := Le.writeO t g1 trivial
              exact ⟨σ', _, I3, fin (d2 := .fd (kvs.map (·.1)) (kvs.map (·.2))) (S2 := S1.set k (.fdic kvs)) (by unfold frzD; simp only [q]) (l.trans l2) (ra'.writeO t g1 trivial ⟨ks, od, rfl, upd_same, kvs_mono g2 l2⟩) (re'.mono l2) (.fd upd_same g2.1 (g2.2.mono l2))⟩
            | dn kvs =>
              obtain ⟨xs, hb, g1, g2⟩ := ra'.at_ k (a, b) _ t q
              have hb' : b = false := hb
              subst hb'
              obtain ⟨od, I3⟩ := I2.lock g1 trivial
              have l2 : Le m' m' H' (upd H' a (.frz od (DnO X.w a xs))) := Le.writeO t g1 trivial
              have g3 := g2.mov l2.lt
              exact ⟨σ', _, I3, fin (d2 := .fm (kvs.map (·.1)) (kvs.map (·.2))) (S2 := S1.set k (.fdn kvs)) (by unfold frzD; simp only [q]) (l.trans l2) (ra'.writeO t g1 trivial ⟨xs, od, rfl, upd_same, g3⟩) (re'.mono l2) (.fm upd_same g3.1 (by rw [g3.1]; exact g3.2.1) g3.2.2)⟩
            | _ => exact keep (by unfold frzD; simp only [q])
        | _ => exact keep rfl
end
end CC
namespace CC
open PySem PySem.Spec PyProof.Rows L2
section
variable {X : Cx} {C : CallSem} {G : Nat → Option D} {W : WX} {a b c e : Expr} {A B D' : Xp} {pos : Pos} {k : Nat}
def unpair : List V → Option (List (V × V))
  | [] => some []
  | [_] => none
  | k :: v :: r => (unpair r).map ((k, v) :: ·)
def DP (X : Cx) (C : CallSem) (G : Nat → Option D) (W : WX) (pos : Pos) (keys : List (Option Expr)) (values : List Expr) (A : Xp) : Prop := ∃ trs, PPs X pos keys values trs ∧
  ∀ (m : Mp) (ρ : Env) (S : Sto) (σ : L2.St) (H : Hp) (Q : List (V × V) → Hp → Prop), RelA X.kw X.mg m H S → RelE X.kw X.mg m H σ ρ →
    Post X.kw X.mg (fun c d H' => W c d σ H') (Rps X.kw X.mg) m H (evs C G A ρ S) (fun vs H' => ∃ ps, unpair vs = some ps ∧ Q ps H') → tPairs trs σ H Q
theorem dpp_nil : DP X C G W pos [] [] .nil := ⟨[], pps_nil, fun m ρ S σ H Q ra re p => by
  obtain ⟨ps, h, q⟩ := Post.now (v := []) (show Post X.kw X.mg (fun c d H' => W c d σ H') (Rps X.kw X.mg) m H (.ok [] S) _ from p) ra .nil
  cases h
  exact q⟩
theorem dpp_cons {kx vx : Expr} {keys : List (Option Expr)} {values : List Expr} (hk : PE X kx (tD X C G W A)) (hv : PE X vx (tD X C G W B)) (hr : DP X C G W pos keys values D') : DP X C G W pos (some kx :: keys) (vx :: values) (.cons A (.cons B D')) := by
  obtain ⟨trs, hp, hd⟩ := hr
  refine ⟨_, pps_cons hk hv hp, fun m ρ S σ H Q ra re p => ?_⟩
  refine ⟨m, ρ, S, ra, re, Post.imp (Post.bind p) fun x H1 ⟨m1, d, S1, l1, ra1, r1, p1⟩ => ?_⟩
  have p1' : Post X.kw X.mg (fun c d H' => W c d σ H') (Rps X.kw X.mg) m1 H1 (((ev C G B ρ S1).bind fun y S2 => (evs C G D' ρ S2).bind fun ys S3 => .ok (y :: ys) S3).bind fun xs S2 => .ok (d :: xs) S2) _ := p1
  have as : (((ev C G B ρ S1).bind fun y S2 => (evs C G D' ρ S2).bind fun ys S3 => R.ok (y :: ys) S3).bind fun xs S2 => .ok (d :: xs) S2) = (ev C G B ρ S1).bind fun y S2 => (evs C G D' ρ S2).bind fun ys S3 => .ok (d :: y :: ys) S3 := by
    cases ev C G B ρ S1 with
    | ok y S2 =>
      show (((evs C G D' ρ S2).bind fun ys S3 => R.ok (y :: ys) S3).bind fun xs S2 => .ok (d :: xs) S2) = (evs C G D' ρ S2).bind fun ys S3 => .ok (d :: y :: ys) S3
      cases evs C G D' ρ S2 <;> rfl
    | _ => rfl
  rw [as] at p1'
  refine ⟨m1, ρ, S1, ra1, re.mono l1, Post.imp (Post.bind p1') fun y H2 ⟨m2, d2, S2, l2, ra2, r2, p2⟩ => ?_⟩
  refine hd m2 ρ S2 σ H2 _ ra2 ((re.mono l1).mono l2) (Post.imp (Post.bind p2) fun vs H3 ⟨m3, ds, S3, l3, ra3, r3, p3⟩ => ?_)
  obtain ⟨ps, h, q⟩ := p3.now ra3 (.cons ((r1.mono l2).mono l3) (.cons (r2.mono l3) r3))
  have h' : (unpair vs).map ((x, y) :: ·) = some ps := h
  cases hu : unpair vs with
  | none => rw [hu] at h'; cases h'
  | some qs =>
    rw [hu] at h'
    cases h'
    exact ⟨qs, rfl, q⟩
theorem ddL_ok {m : Mp} {H : Hp} {K : KW} {mg : Str → Option Value} : ∀ {ds : List D} {vs : List V} {acc kvs : List (Key × D)} {ks0 : List (Key × V)}, Rps K mg m H ds vs → ddL ds acc = some kvs → Kvs K mg m H acc ks0 →
    ∃ more : List (Key × V), unpair vs = some (more.map fun kv => (kV kv.1, kv.2)) ∧ Kvs K mg m H kvs (mergeK ks0 more) ∧ 2 * more.length = ds.length
  | [], _, acc, kvs, ks0, .nil, e, ka => by cases e; exact ⟨[], rfl, ka, rfl⟩
  | [_], _, acc, kvs, ks0, _, e, _ => by cases e
  | k :: d :: ds, _, acc, kvs, ks0, .cons rk (.cons rd rs), e, ka => by
    have e' : ((kD k).bind fun k => ddL ds (putA acc k d)) = some kvs := e
    cases hk : kD k with
    | none => rw [hk] at e'; cases e'
    | some key =>
      rw [hk] at e'
      have ek := kD_v hk rk
      subst ek
      obtain ⟨more, h1, h2, h3⟩ := ddL_ok rs e' (kvs_put ka rd)
      refine ⟨(key, _) :: more, ?_, h2, by simp only [List.length_cons]; omega⟩
      show (unpair _).map _ = _
      rw [h1]
      rfl
theorem de_dd {keys : List (Option Expr)} {values : List Expr} (h : DP X C G W pos keys values A) (hall : keys.all (·.isSome) = true := by rfl) (hl : keys.length = values.length := by rfl) (h0 : keys ≠ [] := by exact List.cons_ne_nil _ _) (h15 : keys.length ≤ 15 := by decide) :
    PE X (.Dict keys values pos) (tD X C G W (.dd A)) := by
  obtain ⟨trs, hp, hd⟩ := h
  refine PE_imp (pe_disp hp hall hl h0 h15) fun σ H Q ⟨m, ρ, S, ra, re, p⟩ q hq => ?_
  have ra0 : RelA X.kw X.mg (m ++ [(q, false)]) (upd H q (.dK [])) (S ++ [.dic []]) := ra.allocO hq ⟨[], rfl, upd_same, rfl, .nil⟩
  have l0 : Le m (m ++ [(q, false)]) H (upd H q (.dK [])) := Le.alloc hq
  have p0 : Post X.kw X.mg (fun c d H' => W c d σ H') (Rp X.kw X.mg) (m ++ [(q, false)]) (upd H q (.dK [])) ((evs C G A ρ (S ++ [.dic []])).bind fun xs S1 => ddD S.length xs S1) Q := Post.move l0 p
  refine hd _ ρ _ σ _ _ ra0 (re.mono l0) (Post.imp (Post.bind p0) fun vs H1 ⟨m1, ds, S1, l1, ra1, r1, p1⟩ => ?_)
  have t1 : m1[S.length]? = some (q, false) := l1.pre _ _ (ra.at_new q)
  have p2 : Post X.kw X.mg (fun c d H' => W c d σ H') (Rp X.kw X.mg) m1 H1 (match S1[S.length]?, ddL ds [] with
    | some (.dic []), some kvs => if ds.length ≤ 30 then .ok (.loc S.length) (S1.set S.length (.dic kvs)) else .bad
    | _, _ => .bad) Q := p1
  cases hS : S1[S.length]? with
  | none => rw [hS] at p2; exact p2.elim
  | some so =>
    rw [hS] at p2
    cases so with
    | dic kv0 =>
      cases kv0 with
      | nil =>
        cases hk : ddL ds [] with
        | none => rw [hk] at p2; exact p2.elim
        | some kvs =>
          rw [hk] at p2
          have p3 : Post X.kw X.mg (fun c d H' => W c d σ H') (Rp X.kw X.mg) m1 H1 (if ds.length ≤ 30 then .ok (.loc S.length) (S1.set S.length (.dic kvs)) else .bad) Q := p2
          by_cases c : ds.length ≤ 30
          · rw [if_pos c] at p3
            obtain ⟨ks, hb, g1, g2⟩ := ra1.at_ S.length (q, false) _ t1 hS
            have e0 : ks = [] := by
              have := g2.1
              cases ks with
              | nil => rfl
              | cons _ _ => cases this
            subst e0
            obtain ⟨more, h1, h2, h3⟩ := ddL_ok r1 hk (ks0 := []) ⟨rfl, .nil⟩
            have le : Le m1 m1 H1 (upd H1 q (.dK (mergeK [] more))) := Le.writeO t1 g1 trivial
            exact ⟨_, h1, g1, more, rfl, by omega, p3 m1 _ (.ref q) le (ra1.writeO t1 g1 trivial ⟨_, rfl, upd_same, kvs_mono h2 le⟩) (.loc t1)⟩
          · rw [if_neg c] at p3
            exact p3.elim
      | cons _ _ => exact p2.elim
    | _ => exact p2.elim
end
end CC
namespace CC
open PySem PySem.Spec PyProof.Rows L2
def spI (K : PySem.W.Frag) (f : Str) : Sp := fun vs H Q _ => ∃ (a C : Addr) (y : V), vs = [.ref a, y] ∧ OexC K C ∧ PySem.W.findIn K (.ref C) f = some none ∧ H a = some (exo a C none) ∧
  ∀ dx, H dx = none → dx ≠ a → Q .non (upd (upd H dx (exd dx [(f, y)])) a (exo a C (some dx)))
structure ExI (K : PySem.W.Frag) (mg : Str → Option Value) (x f : Str) : Prop where
  ex : ∃ (Cl fI : Addr) (fd : FuncData) (se y : Str), mg x = some (.ref Cl) ∧ OexC K Cl ∧ PySem.W.findIn K (.ref Cl) "__init__" = some (some (.ref fI)) ∧ PySem.W.typeIn K (.ref fI) = some (.type "function") ∧ PySem.W.findIn K (.ref Cl) f = some none ∧
    Binds K fd [se, y] [] ∧ ∀ (P : Program) (w : World) (base : Heap) (CX : CXT), FnOk P w K mg base CX 1 fI fd [se, y] (spI K f)
theorem ExI.mg {K : PySem.W.Frag} {mg : Str → Option Value} {x f : Str} (t : ExI K mg x f) : ∃ Cl : Addr, mg x = some (.ref Cl) := by
  obtain ⟨Cl, _, _, _, _, h, _⟩ := t.ex
  exact ⟨Cl, h⟩
end CC
namespace CC
open PySem PySem.Spec PyProof.Rows L2
def MaskR (m : Nat) : Prop := MaskOk m ∨ m = 511
theorem MaskR.odd {m : Nat} (h : MaskR m) : m % 2 = 1 := h.elim mask_odd fun e => by rw [e]
theorem MaskR.le {m : Nat} (h : MaskR m) : m ≤ 511 := by
  rcases h with (e | e | e) | e <;> omega
def orb : Nat → Nat → List Nat
  | 0, _ => []
  | f + 1, 0 => 0 :: orb f 1
  | f + 1, c + 1 => (c + 1) :: orb f (((c + 1) * 5 + 1) % 512)
theorem orb_succ (f c : Nat) : orb (f + 1) c = c :: orb f ((c * 5 + 1) % 512) := by cases c <;> rfl
theorem orb_mem : ∀ (f a x : Nat), x ∈ orb f (lcgN 511 a) → ∃ b, a ≤ b ∧ b < a + f ∧ lcgN 511 b = x
  | 0, _, _, h => nomatch h
  | f + 1, a, x, h => by
    rw [orb_succ] at h
    rcases List.mem_cons.mp h with e | hr
    · exact ⟨a, Nat.le_refl _, by omega, e.symm⟩
    · obtain ⟨b, h1, h2, h3⟩ := orb_mem f (a + 1) x hr
      exact ⟨b, by omega, by omega, h3⟩
theorem orb_all : ((List.range 512).all fun x => (orb 512 0).any (Nat.beq x)) = true := by decide +kernel
theorem orb_back : lcgN 511 512 = 0 := by decide +kernel
theorem hit511 {x : Nat} (h : x ≤ 511) : ∃ b, b ≤ 511 ∧ lcgN 511 b = x := by
  obtain ⟨y, hy, e⟩ := List.any_eq_true.mp (List.all_eq_true.mp orb_all x (List.mem_range.mpr (by omega)))
  have e2 : x = y := Nat.eq_of_beq_eq_true e
  subst e2
  obtain ⟨b, _, h2, h3⟩ := orb_mem 512 0 x hy
  exact ⟨b, by omega, h3⟩
theorem per511 : ∀ n, lcgN 511 (512 + n) = lcgN 511 n
  | 0 => orb_back
  | n + 1 => congrArg (fun x => (x * 5 + 1) % 512) (per511 n)
theorem MaskR.turn {m : Nat} (h : MaskR m) {x y : Nat} (hx : x ≤ m) (hy : y ≤ m) : ∃ n, n ≤ m ∧ lcgI m x n = y := by
  rcases h with h | rfl
  · exact lcgI_all h hx hy
  obtain ⟨p, hp, rfl⟩ := hit511 hx
  obtain ⟨q, hq, rfl⟩ := hit511 hy
  by_cases c : p ≤ q
  · exact ⟨q - p, by omega, by rw [lcgN_add, Nat.add_sub_cancel' c]⟩
  · refine ⟨512 + q - p, by omega, ?_⟩
    rw [lcgN_add, show p + (512 + q - p) = 512 + q by omega, per511]
theorem MaskR.runs {m : Nat} (h : MaskR m) (z : Int) {y : Nat} (hy : y ≤ m) : ∃ n, n ≤ m + 12 ∧ runI m (SetTable.bits z) n = y := by
  obtain ⟨n, h1, h2⟩ := h.turn (runI_le m (SetTable.bits z) 12) hy
  exact ⟨12 + n, by omega, (runI_tail (bits_lt z) n).trans h2⟩
theorem MaskR.meet {m : Nat} (h : MaskR m) (z : Int) {y : Nat} (hy : y ≤ m) : ∃ n, n < 10 * SetTable.turns m ∧ way m z n = y := by
  obtain ⟨n, h1, h2⟩ := h.runs z hy
  obtain ⟨q, h3, h4⟩ := run_nth m (SetTable.bits z) n
  exact ⟨q, by unfold SetTable.turns; omega, (congrArg SetTable.Probe.j h4).trans h2⟩
theorem way_in (m : Nat) (z : Int) (n : Nat) : way m z n ≤ m := by
  have h1 : SetTable.bits z % (m + 1) < m + 1 := Nat.mod_lt _ (Nat.succ_pos _)
  obtain ⟨h2, h3, _⟩ := runEnd_bd (Nat.le_of_lt_succ h1)
  have h4 := nth_in n (runAt m (SetTable.bits z % (m + 1)) (SetTable.bits z)) (show SetTable.bits z % (m + 1) + (SetTable.runEnd m (SetTable.bits z % (m + 1)) - SetTable.bits z % (m + 1)) ≤ m by omega)
  exact Nat.le_trans (Nat.le_add_right _ _) h4
structure TabR (t : SetTable) (zs : List Int) : Prop where
  up : Ris t.place.toList
  nod : t.dummies = #[]
  num : t.place.size = zs.length
  mok : MaskR t.mask
  low : ∀ x ∈ t.place.toList, x ≤ t.mask
  got : ∀ (i : Nat) (z : Int) (x : Nat), zs[i]? = some z → t.place.toList[i]? = some x → ∃ n, way t.mask z n = x ∧ ∀ q, q < n → way t.mask z q ∈ t.place.toList
variable {t : SetTable} {zs : List Int}
theorem TabR.len (T : TabR t zs) : t.place.toList.length = zs.length := T.num
theorem TabR.gap (T : TabR t zs) (hl : zs.length ≤ t.mask) (z : Int) : ∃ N, N < 10 * SetTable.turns t.mask ∧ way t.mask z N ∉ t.place.toList ∧ ∀ q, q < N → way t.mask z q ∈ t.place.toList := by
  obtain ⟨y, h1, h2⟩ := st_missing t.place.toList (t.mask + 1) (by rw [T.len]; omega)
  obtain ⟨n, h3, rfl⟩ := T.mok.meet z (Nat.le_of_lt_succ h1)
  obtain ⟨N, h4, h5, h6⟩ := st_least (p := fun q => way t.mask z q ∉ t.place.toList) n h2
  exact ⟨N, by omega, h5, fun q hq => Classical.not_not.mp (h6 q hq)⟩
theorem TabR.ahead (T : TabR t zs) {z : Int} {N i x : Nat} (hN : way t.mask z N ∉ t.place.toList) (hi : zs[i]? = some z) (hx : t.place.toList[i]? = some x) : ∃ n, n < N ∧ way t.mask z n = x := by
  obtain ⟨n, rfl, h2⟩ := T.got i z x hi hx
  refine ⟨n, ?_, rfl⟩
  have in_ := List.mem_of_getElem? hx
  by_cases c : n < N
  · exact c
  · by_cases d : n = N
    · subst d
      exact absurd in_ hN
    · exact absurd (h2 N (by omega)) hN
theorem TabR.add (T : TabR t zs) {z : Int} {N : Nat} (hN : way t.mask z N ∉ t.place.toList) (hq : ∀ q, q < N → way t.mask z q ∈ t.place.toList) {x c : Nat} (ex : x = way t.mask z N) (ec : c = SetTable.below t.place x) :
    (t.put x).2 = c ∧ c ≤ zs.length ∧ TabR (t.put x).1 (zs.take c ++ z :: zs.drop c) ∧ (t.put x).1.fill = zs.length + 1 := by
  have xm : x ≤ t.mask := by rw [ex]; exact way_in _ _ _
  rw [← ex] at hN
  have cl : c ≤ t.place.toList.length := by
    rw [ec]
    exact (below_cut T.up x).1
  have cz : c ≤ zs.length := T.len ▸ cl
  have pl : (t.put x).1.place.toList = t.place.toList.take c ++ x :: t.place.toList.drop c := by rw [ec]; exact put_place t x
  have old : ∀ y, y ∈ t.place.toList → y ∈ (t.put x).1.place.toList := fun y hy => by
    rw [pl]
    exact mem_ins.mpr (.inr hy)
  have sz : (t.put x).1.place.size = zs.length + 1 := by
    have h1 := len_ins t.place.toList cl x
    rw [← pl, T.len] at h1
    exact h1
  refine ⟨ec.symm, cz, ⟨ris_insert T.up fun e => hN (List.mem_of_getElem? (i := SetTable.below t.place x) ((Array.getElem?_toList ..).trans e)), put_dm T.nod x, sz.trans (len_ins zs cz z).symm, T.mok, fun y hy => ?_, fun i z' y h1 h2 => ?_⟩, ?_⟩
  · rw [pl] at hy
    exact (mem_ins.mp hy).elim (fun e => e ▸ xm) (T.low y)
  · rw [tins_get zs cz] at h1
    rw [pl, tins_get _ cl] at h2
    have more : ∀ j, zs[j]? = some z' → t.place.toList[j]? = some y → ∃ n, way t.mask z' n = y ∧ ∀ q, q < n → way t.mask z' q ∈ (t.put x).1.place.toList := fun j j1 j2 => by
      obtain ⟨n, n1, n2⟩ := T.got j z' y j1 j2
      exact ⟨n, n1, fun q hq => old _ (n2 q hq)⟩
    show ∃ n, way t.mask z' n = y ∧ ∀ q, q < n → way t.mask z' q ∈ (t.put x).1.place.toList
    rcases Nat.lt_trichotomy i c with d | d | d
    · rw [if_pos d] at h1 h2
      exact more i h1 h2
    · rw [if_neg (by omega), if_pos d] at h1 h2
      cases h1
      cases h2
      exact ⟨N, ex.symm, fun q hq2 => old _ (hq q hq2)⟩
    · rw [if_neg (by omega), if_neg (by omega)] at h1 h2
      exact more (i - 1) h1 h2
  · show (t.put x).1.place.size + (t.put x).1.dummies.size = _
    rw [sz, put_dm T.nod x]
    rfl
theorem MaskR.free {m : Nat} (hm : MaskR m) (ow : Array (Option Nat)) (z : Int) {y : Nat} (hy : y ≤ m) (e : oAt ow y = none) :
    ∃ N, SetTable.layClean.free m ow (SetTable.turns m) (SetTable.bits z % (m + 1)) (SetTable.bits z) = some (way m z N) ∧ oAt ow (way m z N) = none ∧ ∀ q, q < N → oAt ow (way m z q) ≠ none := by
  obtain ⟨n, n1, n2⟩ := hm.runs z hy
  obtain ⟨o, ho⟩ : ∃ o, o = off m (SetTable.bits z % (m + 1)) (SetTable.bits z) n := ⟨_, rfl⟩
  have at_o : way m z o = y := by
    rw [ho]
    unfold way
    rw [nth_off, itL_run]
    exact n2
  obtain ⟨N, h1, h2, h3⟩ := st_least (p := fun q => oAt ow (way m z q) = none) o (by rw [at_o]; exact e)
  refine ⟨N, free_spec m ow (SetTable.turns m) n _ _ N (by unfold SetTable.turns; omega) (ho ▸ h1) (fun q hq => ?_) (by rw [show oAt ow (nth m _ N).j = none from h2]; rfl), h2, h3⟩
  exact Option.isNone_eq_false_iff.mpr (Option.ne_none_iff_isSome.mp (h3 q hq))
theorem own_more {m : Nat} (hm : MaskR m) {dn : List Int} {ow : Array (Option Nat)} (O : Own m dn ow) (hl : dn.length ≤ m) (z : Int) :
    ∃ x, SetTable.layClean.free m ow (SetTable.turns m) (SetTable.bits z % (m + 1)) (SetTable.bits z) = some x ∧ Own m (dn ++ [z]) (ow.setIfInBounds x (some dn.length)) := by
  obtain ⟨ps, l1, l2⟩ := O.ps
  obtain ⟨y, y1, y2⟩ := st_missing ps (m + 1) (by omega)
  have y3 : oAt ow y = none := Classical.byContradiction fun e => y2 (l2 y (by omega) e)
  obtain ⟨N, f1, f2, f3⟩ := hm.free ow z (Nat.le_of_lt_succ y1) y3
  obtain ⟨x, ex⟩ : ∃ x, x = way m z N := ⟨_, rfl⟩
  rw [← ex] at f1 f2
  have xm : x ≤ m := by rw [ex]; exact way_in m z N
  have self := oAt_set_self (owner := ow) (some dn.length) (j := x) (by rw [O.sz]; omega)
  have other : ∀ {i}, i ≠ x → oAt (ow.setIfInBounds x (some dn.length)) i = oAt ow i := fun h => oAt_set_ne _ h
  have stay : ∀ {i}, oAt ow i ≠ none → oAt (ow.setIfInBounds x (some dn.length)) i ≠ none := fun {i} h => by
    have d : i ≠ x := fun e => h (by rw [e]; exact f2)
    rw [other d]
    exact h
  refine ⟨x, f1, (Array.size_setIfInBounds ..).trans O.sz, fun j k hj e => ?_, fun k hk => ?_, x :: ps, by simp [l1], fun j hj e => ?_⟩
  · by_cases c : j = x
    · rw [c, self] at e
      cases e
      exact ⟨z, N, by simp, by rw [c, ex], fun q hq => stay (f3 q hq)⟩
    · rw [other c] at e
      obtain ⟨z', n, b1, b2, b3⟩ := O.at_ j k hj e
      exact ⟨z', n, by rw [List.getElem?_append_left (List.getElem?_eq_some_iff.mp b1).1, b1], b2, fun q hq => stay (b3 q hq)⟩
  · by_cases c : k = dn.length
    · exact ⟨x, xm, by rw [c, self]⟩
    · obtain ⟨j, j1, j2⟩ := O.all k (by simp at hk; omega)
      have d : j ≠ x := fun e => by
        rw [e, f2] at j2
        cases j2
      exact ⟨j, j1, (other d).trans j2⟩
  · by_cases c : j = x
    · exact List.mem_cons.mpr (.inl c)
    · rw [other c] at e
      exact List.mem_cons.mpr (.inr (l2 j hj e))
theorem own_fold {m : Nat} (hm : MaskR m) : ∀ (r dn : List Int) (ow : Array (Option Nat)), Own m dn ow → dn.length + r.length ≤ m →
    ∃ o2, List.foldl (stepF m) (some (ow, dn.length)) r = some (o2, dn.length + r.length) ∧ Own m (dn ++ r) o2
  | [], dn, ow, O, _ => ⟨ow, rfl, by rwa [List.append_nil]⟩
  | z :: r, dn, ow, O, hl => by
    have hl2 : dn.length + (r.length + 1) ≤ m := hl
    obtain ⟨x, e, O2⟩ := own_more hm O (by omega) z
    have e1 : (dn ++ [z]).length = dn.length + 1 := by simp
    obtain ⟨o2, g1, g2⟩ := own_fold hm r (dn ++ [z]) _ O2 (by omega)
    rw [e1] at g1
    refine ⟨o2, ?_, by simpa using g2⟩
    rw [List.foldl_cons, stepF_some e, g1, List.length_cons]
    congr 2
    omega
theorem own_all {m : Nat} (hm : MaskR m) {zs : Array Int} (hn : zs.size ≤ m) : ∃ o2, SetTable.layClean m zs = some o2 ∧ Own m zs.toList o2 := by
  obtain ⟨o2, g1, g2⟩ := own_fold hm zs.toList [] _ (Own.init m) (by rw [List.length_nil, Array.length_toList]; omega)
  exact ⟨o2, by rw [layClean_eq, show (0 : Nat) = ([] : List Int).length from rfl, g1]; rfl, g2⟩
theorem laid_anew (t : SetTable) {zs : Array Int} {want M : Nat} (hw : SetTable.sizeAbove want - 1 = M) (hM : MaskR M) (hn : zs.size ≤ M) :
    ∃ t2 od, t.relaid zs want = some (t2, od) ∧ od.toList.Perm (List.range zs.size) ∧ TabR t2 (od.toList.map fun i => zs.getD i 0) ∧ t2.mask = M ∧ t2.led = t.led := by
  obtain ⟨ow, e, O⟩ := own_all hM hn
  obtain ⟨up, sub⟩ := ris_live (fun x => ow.getD x none) (List.range (M + 1)) List.pairwise_lt_range
  have up2 : Ris ((liveOf M ow).map (·.1)) := up
  have sub2 : ∀ x ∈ (liveOf M ow).map (·.1), x < M + 1 := fun x hx => List.mem_range.mp (sub x hx)
  have live : ∀ {x k}, (x, k) ∈ liveOf M ow ↔ x ≤ M ∧ oAt ow x = some k := mem_live O.sz
  have each : ∀ k, k < zs.size → k ∈ (liveOf M ow).map (·.2) := fun k hk => by
    obtain ⟨x, x1, x2⟩ := O.all k hk
    exact List.mem_map.mpr ⟨(x, k), live.mpr ⟨x1, x2⟩, rfl⟩
  have num : (liveOf M ow).length = zs.size := by
    obtain ⟨ps, l1, l2⟩ := O.ps
    have a := nat_nodup_len _ ps (List.Pairwise.imp Nat.ne_of_lt up2) fun x hx => by
      obtain ⟨⟨y, k⟩, hq, rfl⟩ := List.mem_map.mp hx
      obtain ⟨b1, b2⟩ := live.mp hq
      exact l2 _ b1 (by rw [b2]; simp)
    have b := nat_nodup_len _ ((liveOf M ow).map (·.2)) (List.nodup_range (n := zs.size)) fun k hk => each k (List.mem_range.mp hk)
    have q : zs.toList.length = zs.size := Array.length_toList
    rw [List.length_map, l1, q] at a
    rw [List.length_range, List.length_map] at b
    omega
  refine ⟨tabOf t M ow, ((liveOf M ow).map (·.2)).toArray, by rw [relaid_eq, hw, e]; rfl, perm_range _ _ (by simp [num]) each, ⟨up2, rfl, by simp [tabOf], hM, fun x hx => Nat.le_of_lt_succ (sub2 x hx), fun i z x h1 h2 => ?_⟩, rfl, rfl⟩
  have h3 : (liveOf M ow)[i]?.map (·.1) = some x := by rw [← List.getElem?_map]; exact h2
  have h4 : ((liveOf M ow)[i]?.map (·.2)).map (fun k => zs.getD k 0) = some z := by rw [← List.getElem?_map, ← List.getElem?_map]; exact h1
  cases g : (liveOf M ow)[i]? with
  | none => rw [g] at h3; cases h3
  | some y =>
    obtain ⟨y, k⟩ := y
    rw [g] at h3 h4
    cases h3
    obtain ⟨b1, b2⟩ := live.mp (List.mem_of_getElem? g)
    obtain ⟨z', n, c1, c2, c3⟩ := O.at_ y k b1 b2
    have ez : z' = z := by
      have : zs.getD k 0 = z := Option.some.inj h4
      rw [← this, Array.getD_eq_getD_getElem?, ← Array.getElem?_toList, c1]
      rfl
    subst ez
    refine ⟨n, c2, fun q hq => ?_⟩
    obtain ⟨k2, e2⟩ := Option.ne_none_iff_exists'.mp (c3 q hq)
    exact List.mem_map.mpr ⟨(_, k2), live.mpr ⟨way_in M z' q, e2⟩, rfl⟩
theorem size_308 : SetTable.sizeAbove (SetTable.grown 77) = 512 := by decide +kernel
end CC
namespace CC
open PySem PySem.Spec PyProof.Rows L2
section
variable {P : Program} {w : World} {A : Around} {E : Value → Shared → Prop} {s : Shared} {h : Heap} {k : NestedKey} {b : Addr}
def Flat : NestedKey → Prop
  | .tup ks => ∀ k ∈ ks, (∃ i, k = .num i) ∨ ∃ x, k = .text x
  | _ => False
def Pln (v : Value) : Prop := (∃ b, v = .bool b) ∨ (∃ i t, v = .int i t) ∨ ∃ x t, v = .str x t
theorem pln_of {ks : List NestedKey} (hf : ∀ k ∈ ks, (∃ i, k = .num i) ∨ ∃ x, k = .text x) : ∀ {vs : List Value}, NestedAll h ks vs → ∀ v ∈ vs, Pln v := by
  induction ks with
  | nil =>
    intro vs hv v hm
    cases hv
    cases hm
  | cons k ks ih =>
    intro vs hv v hm
    cases hv with
    | @cons _ u _ us hu hus =>
      rcases List.mem_cons.mp hm with rfl | hm
      · rcases hf k List.mem_cons_self with ⟨i, rfl⟩ | ⟨x, rfl⟩
        · cases hu with
          | bool _ => exact .inl ⟨_, rfl⟩
          | int _ _ => exact .inr (.inl ⟨_, _, rfl⟩)
        · cases hu
          exact .inr (.inr ⟨_, _, rfl⟩)
      · exact ih (fun q hq => hf q (List.mem_cons_of_mem _ hq)) hus v hm
theorem pln_class {v : Value} (hv : Pln v) (n : Nat) : ofAClassStatement n v = pure false := by
  rcases hv with ⟨b, rfl⟩ | ⟨i, t, rfl⟩ | ⟨x, t, rfl⟩ <;> cases n <;> rfl
theorem pln_hash {v : Value} (hv : Pln v) (n : Nat) : ∃ c, hashByValue n v = pure c := by
  rcases hv with ⟨b, rfl⟩ | ⟨i, t, rfl⟩ | ⟨x, t, rfl⟩ <;> cases n <;> exact ⟨_, rfl⟩
def Is (h : Heap) (k : NestedKey) (b : Addr) : Prop := NestedIs h k (.ref b) ∧ k.depth ≤ 8 ∧ Flat k
theorem Is.nk (z : Is h k b) : (nestedKind P w).is h k b := ⟨z.1, z.2.1⟩
theorem Is.obj (z : Is h k b) : ∃ o vs n, h.get? b = some o ∧ o.cls = .type "tuple" ∧ o.data = .seq vs n ∧ ∀ v ∈ vs.toList, Pln v := by
  obtain ⟨z1, _, z3⟩ := z
  cases z1 with
  | tup e1 e2 e3 e4 => exact ⟨_, _, _, e1, e2, e3, pln_of z3 e4⟩
theorem Is.mono {h' : Heap} (z : Is h k b) (hk : ∀ a o vs n, h.get? a = some o → o.data = .seq vs n → h'.get? a = some o) : Is h' k b := ⟨NestedIs.at hk _ _ z.1, z.2⟩
theorem no_class {Q : Bool → Shared → Prop} (z : Is s.heap k b) (q : Q false s) : wpAny (model P w) A (ofAClassStatement 8 (.ref b)) Q E s := by
  obtain ⟨o, vs, n, ho, hc, hd, hp⟩ := z.obj
  unfold ofAClassStatement
  refine wpAny_bind (wpAny_typeOf (show s.TypeIs (.ref b) "tuple" from ⟨o, ho, hc⟩) ?_)
  dsimp only
  have tt : (("tuple" : String) == "tuple") = true := by decide
  simp only [tt, if_true, Bool.not_true, Bool.false_eq_true, if_false]
  try refine wpAny_bind (wpAny_pure ?_)
  try simp only [Bool.not_true, Bool.false_eq_true, if_false]
  show wpAny _ _ (seqItems? (.ref b) >>= _) _ _ _
  refine wpAny_bind (wpAny_seqItems ho hd ?_)
  dsimp only
  refine wpAny_bind ?_
  show wpAny _ _ (forIn vs _ _) _ _ _
  rw [← Array.forIn_toList]
  refine wpAny_forIn_list _ (fun us c s1 => s1 = s ∧ c.1 = none ∧ ∀ u ∈ us, Pln u) _ (fun u us c s1 j => ?_) (fun c s1 j => ?_) _ _ ⟨rfl, rfl, hp⟩
  · obtain ⟨rfl, j1, j2⟩ := j
    rw [pln_class (j2 u List.mem_cons_self)]
    refine wpAny_bind (wpAny_pure ?_)
    rw [if_neg Bool.false_ne_true]
    exact wpAny_pure ⟨rfl, rfl, fun x hx => j2 x (List.mem_cons_of_mem _ hx)⟩
  · obtain ⟨c1, c2⟩ := c
    obtain ⟨rfl, j1, _⟩ := j
    cases j1
    exact wpAny_pure q
theorem hash_word {Q : Bool → Shared → Prop} (z : Is s.heap k b) (q : ∀ c, Q c s) : wpAny (model P w) A (hashByValue 8 (.ref b)) Q E s := by
  obtain ⟨o, vs, n, ho, hc, hd, hp⟩ := z.obj
  unfold hashByValue
  refine wpAny_bind (wpAny_specialOf (show s.TypeIs (.ref b) "tuple" from ⟨o, ho, hc⟩) F.slot_tuple_hash.lookup ?_)
  show wpAny _ _ (seqItems? (.ref b) >>= _) _ _ _
  refine wpAny_bind (wpAny_seqItems ho hd ?_)
  refine wpAny_bind ?_
  show wpAny _ _ (forIn vs _ _) _ _ _
  rw [← Array.forIn_toList]
  refine wpAny_forIn_list _ (fun us c s1 => s1 = s ∧ c.1 = none ∧ ∀ u ∈ us, Pln u) _ (fun u us c s1 j => ?_) (fun c s1 j => ?_) _ _ ⟨rfl, rfl, hp⟩
  · obtain ⟨rfl, j1, j2⟩ := j
    obtain ⟨r, hr⟩ := pln_hash (j2 u List.mem_cons_self) 7
    rw [hr]
    refine wpAny_bind (wpAny_pure ?_)
    cases r with
    | true =>
      simp only [Bool.not_true, Bool.false_eq_true, if_false]
      exact wpAny_pure ⟨rfl, rfl, fun x hx => j2 x (List.mem_cons_of_mem _ hx)⟩
    | false =>
      simp only [Bool.not_false, if_true]
      exact wpAny_pure (wpAny_pure (q false))
  · obtain ⟨c1, c2⟩ := c
    obtain ⟨rfl, j1, _⟩ := j
    cases j1
    exact wpAny_pure (q true)
theorem unseen {Q : Bool → Shared → Prop} (z : Is s.heap k b) {ys : List Value} (hy : ∀ y ∈ ys, ∃ k' c, y = Value.ref c ∧ Is s.heap k' c) (q : Q false s) : wpAny (model P w) A (searchCouldBeSeen (.ref b) ys) Q E s := by
  unfold searchCouldBeSeen
  refine wpAny_bind ?_
  refine wpAny_forIn_list _ (fun us c s1 => s1 = s ∧ c.1 = none ∧ ∀ y ∈ us, ∃ k' d, y = Value.ref d ∧ Is s.heap k' d) _ (fun u us c s1 j => ?_) (fun c s1 j => ?_) _ _ ⟨rfl, rfl, hy⟩
  · obtain ⟨rfl, j1, j2⟩ := j
    obtain ⟨k', d, rfl, zd⟩ := j2 u List.mem_cons_self
    have on : ∀ y ∈ us, ∃ k' d, y = Value.ref d ∧ Is s1.heap k' d := fun y hy => j2 y (List.mem_cons_of_mem _ hy)
    dsimp only
    by_cases e : (b == d || (carriedByValue (.ref b) && carriedByValue (.ref d))) = true
    · refine wp_if_pos e (wpAny_pure ⟨rfl, rfl, on⟩)
    · refine wp_if_neg e (wpAny_bind ((nestedKind P w).quiet z.nk ?_))
      rw [Bool.not_true, if_neg Bool.false_ne_true]
      refine wpAny_bind ((nestedKind P w).quiet zd.nk ?_)
      rw [Bool.not_true, if_neg Bool.false_ne_true]
      refine wpAny_bind (no_class z ?_)
      rw [if_neg Bool.false_ne_true]
      refine wpAny_bind (no_class zd ?_)
      rw [if_neg Bool.false_ne_true]
      exact wpAny_pure ⟨rfl, rfl, on⟩
  · obtain ⟨c1, c2⟩ := c
    obtain ⟨rfl, j1, _⟩ := j
    cases j1
    exact wpAny_pure q
abbrev hsh (w : World) (p : Addr × NestedKey) : Int := p.2.hash w
abbrev ents (w : World) (M : List (Addr × NestedKey)) : List (Int × Value) := M.map fun p => (hsh w p, Value.ref p.1)
structure SetK (w : World) (h : Heap) (a : Addr) (M : List (Addr × NestedKey)) (es : Array (Int × Value)) (ep : Nat) (t : SetTable) : Prop where
  obj : ∃ o, h.get? a = some o ∧ o.ExactSet ∧ o.data = .set es ep t
  ent : es.toList = ents w M
  tab : TabR t (M.map (hsh w))
  dif : (M.map (·.2)).Nodup
  key : ∀ p ∈ M, Is h p.2 p.1
  led : w.params.followText "set-order" = true ∨ t.led = true
  free : M.length * 5 < t.mask * 3
  few : M.length < 300
variable {a : Addr} {M : List (Addr × NestedKey)} {es : Array (Int × Value)} {ep : Nat} {t : SetTable}
theorem ents_len (e : es.toList = ents w M) : es.size = M.length := by
  rw [← Array.length_toList, e, List.length_map]
theorem ents_at (e : es.toList = ents w M) {i : Nat} {p : Addr × NestedKey} (q : M[i]? = some p) : es[i]? = some (hsh w p, Value.ref p.1) := by
  rw [← Array.getElem?_toList, e, List.getElem?_map, q]
  rfl
theorem SetK.fits (z : SetK w h a M es ep t) : t.fits es.size = true := by
  have e1 := z.tab.num
  have e2 := ents_len z.ent
  have e3 := z.free
  rw [List.length_map] at e1
  have e4 : t.dummies.size = 0 := by rw [z.tab.nod]; rfl
  unfold SetTable.fits SetTable.fill
  simp only [Bool.and_eq_true, beq_iff_eq, decide_eq_true_eq]
  omega
abbrev org (t : SetTable) (x : Int) : SetTable.Probe := runAt t.mask (SetTable.bits x % (t.mask + 1)) (SetTable.bits x)
theorem nth_dummy {m : Nat} : ∀ (n : Nat) (p : SetTable.Probe), p.dummy = none → (nth m p n).dummy = none
  | 0, p, e => e
  | n + 1, p, e => nth_dummy n (adv m p) (by unfold adv; split <;> exact e)
theorem srch (z : SetK w s.heap a M es ep t) (hu : A.units + 8 < cLine) (zk : Is s.heap k b) {N : Nat} (lim : N < 10 * SetTable.turns t.mask) (emp : way t.mask (k.hash w) N ∉ t.place.toList) (ful : ∀ j, j < N → way t.mask (k.hash w) j ∈ t.place.toList)
    {Q : SetFound → Shared → Prop} (q0 : k ∈ M.map (·.2) → Q (.there none) s) (q : k ∉ M.map (·.2) → Q (.free (way t.mask (k.hash w) N) false) s) :
    ∀ (fu j : Nat) (st : Option SetTable.Probe), st.getD (t.probeStart (k.hash w)) = nth t.mask (org t (k.hash w)) j → j ≤ N → N < fu + j → (∀ (i0 : Nat) (p0 : Addr × NestedKey), M[i0]? = some p0 → p0.2 = k → ∃ c, j ≤ c ∧ c < N ∧ t.place.toList[i0]? = some (way t.mask (k.hash w) c)) → wpAny (model P w) A (setSearchFrom a (.ref b) (k.hash w) true fu st) Q E s := by
  intro fu
  induction fu with
  | zero => intro j st _ j1 j2 _; omega
  | succ fu ih =>
    intro j st est j1 j2 rch
    obtain ⟨o, ho, hex, hd⟩ := z.obj
    have fits := z.fits
    have gw : ¬ t.gaveWay = true := by
      unfold SetTable.gaveWay
      rw [z.tab.mok.odd]
      decide
    rw [setSearchFrom_succ]
    refine wpAny_bind (wpAny_setState_of ho hd fits ?_)
    dsimp only
    refine wp_if_neg gw ?_
    try refine wpAny_bind (wpAny_pure ?_)
    have shift : ∀ i, nth t.mask (nth t.mask (org t (k.hash w)) j) i = nth t.mask (org t (k.hash w)) (j + i) := fun i => (nth_add t.mask j _ i).symm
    have wj : ∀ i, (nth t.mask (nth t.mask (org t (k.hash w)) j) i).j = way t.mask (k.hash w) (j + i) := fun i => congrArg (·.j) (shift i)
    have hsAt : ∀ (i : Nat) p, M[i]? = some p → (es[i]?.map (·.1)).getD 0 = hsh w p := fun i p hp => by
      rw [ents_at z.ent hp]
      rfl
    rcases go_spec t z.tab.up z.tab.nod (fun i => (es[i]?.map (·.1)).getD 0) (k.hash w) (10 * SetTable.turns t.mask) (N - j) (nth t.mask (org t (k.hash w)) j) (nth_dummy j _ rfl) (by omega) (fun i hi => by rw [wj]; exact ful _ (by omega)) (by rw [wj, Nat.add_sub_cancel' j1]; exact emp) with ⟨i, n, i1, i2, _, i4, met⟩ | ⟨i4, met⟩
    ·
      rw [wj] at i2
      rw [wj, shift] at met
      have met' : t.probe (fun i => (es[i]?.map (·.1)).getD 0) (k.hash w) (st.getD (t.probeStart (k.hash w))) = some (.candidate (way t.mask (k.hash w) (j + i)) n (nth t.mask (org t (k.hash w)) (j + (i + 1)))) := by
        rw [est]
        exact met
      rw [met']
      dsimp only
      have nM : n < M.length := by
        have q1 := z.tab.num
        have q2 := (List.getElem?_eq_some_iff.mp i2).1
        rw [List.length_map] at q1
        rw [Array.length_toList] at q2
        omega
      obtain ⟨p, hp⟩ : ∃ p, M[n]? = some p := ⟨_, List.getElem?_eq_getElem nM⟩
      have pm : p ∈ M := List.mem_of_getElem? hp
      have zp := z.key p pm
      have sl : t.slot (way t.mask (k.hash w) (j + i)) = .live n := slot_live z.tab.up i2
      have go : wpAny (model P w) A (searchRest a (.ref b) (k.hash w) true fu es t (way t.mask (k.hash w) (j + i)) n (nth t.mask (org t (k.hash w)) (j + (i + 1)))) Q E s := by
        unfold searchRest
        rw [ents_at z.ent hp]
        dsimp only
        refine wpAny_bind (wpAny_holding ((nestedKind P w).eqBool hu zp.nk zk.nk ?_))
        refine wpAny_bind (wpAny_setState_of ho hd fits ?_)
        dsimp only
        by_cases pk : p.2 = k
        · refine wp_if_pos (by rw [decide_eq_true pk]; rfl) ?_
          exact wpAny_pure (q0 (List.mem_map.mpr ⟨p, pm, pk⟩))
        rw [decide_eq_false pk]
        refine wp_if_neg (by decide) ?_
        try refine wpAny_bind (wpAny_pure ?_)
        rw [sameMem]
        dsimp only
        simp only [if_true, slot_live z.tab.up i2, ents_at z.ent hp]
        refine wpAny_bind (wpAny_isSame_ref_self (wpAny_bind (wpAny_pure ?_)))
        simp only [if_true]
        refine wp_if_neg (by decide) ?_
        refine ih (j + (i + 1)) _ rfl (by omega) (by omega) fun i0 p0 h0 hk0 => ?_
        obtain ⟨c, c1, c2, c3⟩ := rch i0 p0 h0 hk0
        refine ⟨c, ?_, c2, c3⟩
        rcases Nat.lt_trichotomy c (j + i) with y | y | y
        · refine absurd (show (es[i0]?.map (·.1)).getD 0 = k.hash w from ?_) (i4 (c - j) i0 (by omega) (by rw [wj, Nat.add_sub_cancel' c1]; exact c3))
          rw [hsAt i0 p0 h0, ← hk0]
        · rw [y] at c3
          have s0 := slot_live z.tab.up c3
          rw [sl] at s0
          cases s0
          rw [hp] at h0
          cases h0
          exact absurd hk0 pk
        · omega
      by_cases hl : t.led = true
      · refine wp_if_neg (by rw [hl]; decide) ?_
        try refine wpAny_bind (wpAny_pure ?_)
        exact go
      · refine wp_if_pos (by simpa using hl) (wpAny_bind (unseen zk (fun y hy => ?_) ?_))
        · obtain ⟨e, he, rfl⟩ := List.mem_map.mp hy
          have he1 : e ∈ es.toList := by
            have := (by simpa using he : e ∈ es ∧ e.1 = k.hash w)
            simpa using this.1
          rw [z.ent] at he1
          obtain ⟨p', hp', rfl⟩ := List.mem_map.mp he1
          exact ⟨p'.2, p'.1, rfl, z.key p' hp'⟩
        · refine wp_if_neg (by decide) ?_
          try refine wpAny_bind (wpAny_pure ?_)
          exact go
    · rw [wj, Nat.add_sub_cancel' j1] at met
      have met' : t.probe (fun i => (es[i]?.map (·.1)).getD 0) (k.hash w) (st.getD (t.probeStart (k.hash w))) = some (.empty (way t.mask (k.hash w) N) none) := by
        rw [est]
        exact met
      rw [met']
      refine wpAny_pure (q fun hm => ?_)
      obtain ⟨p0, h0, hk0⟩ := List.mem_map.mp hm
      obtain ⟨i0, hi0, e0⟩ := List.getElem_of_mem h0
      have h00 : M[i0]? = some p0 := by rw [List.getElem?_eq_getElem hi0, e0]
      obtain ⟨c, c1, c2, c3⟩ := rch i0 p0 h00 hk0
      refine i4 (c - j) i0 (by omega) (by rw [wj, Nat.add_sub_cancel' c1]; exact c3) ?_
      show (es[i0]?.map (·.1)).getD 0 = k.hash w
      rw [hsAt i0 p0 h00, ← hk0]
theorem srch_all (z : SetK w s.heap a M es ep t) (hu : A.units + 8 < cLine) (zk : Is s.heap k b) {Q : SetFound → Shared → Prop} (q0 : k ∈ M.map (·.2) → Q (.there none) s)
    (q : ∀ N, k ∉ M.map (·.2) → way t.mask (k.hash w) N ∉ t.place.toList → (∀ j, j < N → way t.mask (k.hash w) j ∈ t.place.toList) → Q (.free (way t.mask (k.hash w) N) false) s) : wpAny (model P w) A (setSearch a (.ref b) (k.hash w) true) Q E s := by
  have e3 := z.free
  obtain ⟨N, l1, l2, l3⟩ := z.tab.gap (by rw [List.length_map]; omega) (k.hash w)
  have l4 : N < 100000 + 0 := by
    have : 10 * SetTable.turns t.mask ≤ 9000 := by
      have := z.tab.mok.le
      unfold SetTable.turns
      omega
    omega
  refine srch z hu zk l1 l2 l3 q0 (fun hn => q N hn l2 l3) 100000 0 none rfl (Nat.zero_le _) l4 fun i p hp hk => ?_
  have h1 : (M.map (hsh w))[i]? = some (k.hash w) := by rw [List.getElem?_map, hp, ← hk]; rfl
  have h2 : i < t.place.toList.length := by
    have y1 := (List.getElem?_eq_some_iff.mp hp).1
    have y2 := z.tab.num
    rw [List.length_map] at y2
    rw [Array.length_toList]
    omega
  have h3 := List.getElem?_eq_getElem h2
  obtain ⟨c, y1, y2⟩ := z.tab.ahead l2 h1 h3
  exact ⟨c, Nat.zero_le _, y1, by rw [h3, y2]⟩
theorem reorder {o : Array Nat} (e : es.toList = ents w M) (hp : o.toList.Perm (List.range M.length)) :
    ∃ M2, (o.filterMap (es[·]?)).toList = ents w M2 ∧ M2.Perm M ∧ M2.map (hsh w) = o.toList.map fun i => (es.map (·.1)).getD i 0 := by
  let g (i : Nat) : Addr × NestedKey := M.getD i (0, .none)
  have inr : ∀ i ∈ o.toList, i < M.length := fun i hi => List.mem_range.mp (hp.mem_iff.mp hi)
  have at_ : ∀ i, i < M.length → M[i]? = some (g i) := fun i hi => by
    show _ = some (M.getD i (0, .none))
    rw [List.getD_eq_getElem?_getD, List.getElem?_eq_getElem hi]
    rfl
  have whole : (List.range M.length).map g = M := by
    refine List.ext_getElem? fun i => ?_
    rw [List.getElem?_map]
    by_cases hi : i < M.length
    · rw [List.getElem?_range hi, at_ i hi]
      rfl
    · rw [List.getElem?_eq_none (by simpa using hi), List.getElem?_eq_none (by omega)]
      rfl
  have fm : ∀ l : List Nat, (∀ i ∈ l, i < M.length) → l.filterMap (fun i => es[i]?) = ents w (l.map g) := by
    intro l hl
    induction l with
    | nil => rfl
    | cons i l ih =>
      rw [List.filterMap_cons_some (ents_at e (at_ i (hl i List.mem_cons_self))), ih fun j hj => hl j (List.mem_cons_of_mem _ hj)]
      rfl
  refine ⟨o.toList.map g, by rw [Array.toList_filterMap]; exact fm _ inr, ?_, ?_⟩
  · rw [← whole]
    have := hp.map g
    rw [whole] at this ⊢
    exact this
  · rw [List.map_map]
    refine List.map_congr_left fun i hi => ?_
    have q := ents_at e (at_ i (inr i hi))
    have q2 : (es.map (·.1))[i]? = some (hsh w (g i)) := by rw [Array.getElem?_map, q]; rfl
    show hsh w (g i) = _
    rw [Array.getD_eq_getD_getElem?, q2]
    rfl
theorem Is.set {h' : Heap} {o : Obj} (z : Is h k b) (ho : h.get? a = some o) (hd : o.data = .set es ep t) (hs : Heap.SameBut a h h') : Is h' k b := z.mono fun c ob vs n e1 e2 => by
  refine (hs.2 c fun e => ?_).trans e1
  subst e
  rw [ho] at e1
  cases e1
  rw [hd] at e2
  cases e2
theorem relay {o : Obj} (ho : s.heap.get? a = some o) (hex : o.ExactSet) (hd : o.data = .set es ep t) (e : es.toList = ents w M) (fits : t.fits es.size = true) (dif : (M.map (·.2)).Nodup) (key : ∀ p ∈ M, Is s.heap p.2 p.1)
    (led : w.params.followText "set-order" = true ∨ t.led = true) (few : M.length < 300) {want N : Nat} (sz : SetTable.sizeAbove want - 1 = N) (mok : MaskR N) (small : SetTable.sizeAbove want ≤ 512) (room : M.length * 5 < N * 3) {Q : Unit → Shared → Prop}
    (q : ∀ h' M' es' ep' t', Heap.SameBut a s.heap h' → SetK w h' a M' es' ep' t' → M'.Perm M → Q () { s with heap := h' }) : wpAny (model P w) A (setRelay a want) Q E s := by
  have len := ents_len e
  obtain ⟨t2, od, r1, r2, r3, r4, r5⟩ := laid_anew t (zs := es.map (·.1)) (want := want) sz mok (by rw [Array.size_map, len]; omega)
  rw [Array.size_map, len] at r2
  obtain ⟨M2, m1, m2, m3⟩ := reorder e r2
  rw [← m3] at r3
  have len2 : (od.filterMap (es[·]?)).size = es.size := by rw [ents_len m1, m2.length_eq, len]
  rw [setRelay_eq]
  refine wpAny_bind (wpAny_setState_of ho hd fits ?_)
  dsimp only
  refine wp_if_neg (by rw [sizeLine_eq]; omega) ?_
  try refine wpAny_bind (wpAny_pure ?_)
  rw [r1]
  dsimp only
  refine wpAny_bind ?_
  refine wp_if_neg (by rw [len2]; simp) ?_
  try refine wpAny_bind (wpAny_pure ?_)
  refine wpAny_pure ?_
  dsimp only
  refine wpAny_storeSet_of ho hd ?_ (by rw [len2, len, sizeLine_eq]; omega)
  have sb : Heap.SameBut a s.heap (s.heap.update a (Obj.putSet (od.filterMap (es[·]?)) t2)) := Heap.SameBut.update ..
  refine q _ M2 _ _ t2 sb ⟨⟨_, store_at ho hd, ⟨hex.1, hex.2.1, hex.2.2⟩, rfl⟩, m1, r3, (m2.map (·.2)).nodup_iff.mpr dif, fun p hp => (key p (m2.mem_iff.mp hp)).set ho hd sb, by rw [r5]; exact led, by rw [m2.length_eq, r4]; exact room, by rw [m2.length_eq]; exact few⟩ m2
theorem add_key (z : SetK w s.heap a M es ep t) (hu : A.units + 8 < cLine) (zk : Is s.heap k b) (few : M.length + 1 < 300) {Q : Bool → Shared → Prop} (q0 : k ∈ M.map (·.2) → Q false s)
    (q : k ∉ M.map (·.2) → ∀ h' M' es' ep' t', Heap.SameBut a s.heap h' → SetK w h' a M' es' ep' t' → M'.Perm ((b, k) :: M) → Q true { s with heap := h' }) : wpAny (model P w) A (setAddHashed a (.ref b) (k.hash w)) Q E s := by
  obtain ⟨o, ho, hex, hd⟩ := z.obj
  have len := ents_len z.ent
  have e3 := z.free
  unfold setAddHashed
  refine wpAny_holding ?_
  rw [show (100000 : Nat) = 99999 + 1 from rfl, setAddHashedIn_succ]
  refine wpAny_bind (wpAny_setState_of ho hd z.fits ?_)
  dsimp only
  refine wp_if_neg (by simp [byScan, Value.scannable]) ?_
  try refine wpAny_bind (wpAny_pure ?_)
  refine wpAny_bind (srch_all z hu zk (fun hm => by
    dsimp only
    exact wpAny_pure (q0 hm)) fun N nk emp ful => ?_)
  replace q := q nk
  dsimp only
  refine wpAny_bind (wpAny_setState_of ho hd z.fits ?_)
  dsimp only
  obtain ⟨j, ej⟩ : ∃ j, j = way t.mask (k.hash w) N := ⟨_, rfl⟩
  obtain ⟨c, ec⟩ : ∃ c, c = SetTable.below t.place j := ⟨_, rfl⟩
  obtain ⟨p1, p2, p3, p9⟩ := z.tab.add emp ful ej ec
  have p4 : (t.put j).1.mask = t.mask := rfl
  have p5 : (t.put j).1.led = t.led := rfl
  rw [← ej]
  rw [List.length_map] at p9
  have m1 : (SetTable.insertAt es c (k.hash w, Value.ref b)).toList = ents w (M.take c ++ (b, k) :: M.drop c) := by
    rw [SetTable.toList_insertAt, z.ent]
    show _ = (M.take c ++ (b, k) :: M.drop c).map _
    rw [List.map_append, List.map_cons, List.map_take, List.map_drop]
  have m2 : (M.take c ++ (b, k) :: M.drop c).Perm ((b, k) :: M) := by
    have := List.perm_middle (a := (b, k)) (l₁ := M.take c) (l₂ := M.drop c)
    rwa [List.take_append_drop] at this
  have m3 : (M.take c ++ (b, k) :: M.drop c).map (hsh w) = (M.map (hsh w)).take c ++ k.hash w :: (M.map (hsh w)).drop c := by
    rw [List.map_append, List.map_cons, List.map_take, List.map_drop]
  rw [← m3] at p3
  have m4 : ((M.take c ++ (b, k) :: M.drop c).map (·.2)).Nodup := by
    rw [(m2.map (·.2)).nodup_iff, List.map_cons]
    exact List.nodup_cons.mpr ⟨nk, z.dif⟩
  have m5 := m2.length_eq
  rw [List.length_cons] at m5
  generalize hes : SetTable.insertAt es c (k.hash w, Value.ref b) = es1 at m1
  generalize M.take c ++ (b, k) :: M.drop c = M1 at m1 m2 m3 m4 m5 p3
  have n1 := ents_len m1
  have tail : ∀ t1 : SetTable, TabR t1 (M1.map (hsh w)) → t1.mask = t.mask → t1.led = t.led → t1.fill = M.length + 1 →
      wpAny (model P w) A (storeSet a es1 t1 >>= fun _ => if (!false && t1.tooFull) = true then setRelay a (SetTable.grown (es.size + 1)) >>= fun _ => pure true else pure true) Q E s := by
    intro t1 tok e1 e2 e4
    refine wpAny_bind (wpAny_storeSet_of ho hd ?_ (by rw [n1, m5, sizeLine_eq]; omega))
    have sb : Heap.SameBut a s.heap (s.heap.update a (Obj.putSet es1 t1)) := Heap.SameBut.update ..
    have ho1 := store_at (es' := es1) (t' := t1) ho hd
    have key1 : ∀ p ∈ M1, Is (s.heap.update a (Obj.putSet es1 t1)) p.2 p.1 := fun p hp => by
      rcases List.mem_cons.mp (m2.mem_iff.mp hp) with e | hp
      · rw [e]; exact zk.set ho hd sb
      · exact (z.key p hp).set ho hd sb
    generalize s.heap.update a (Obj.putSet es1 t1) = h1 at sb ho1 key1 ⊢
    have led1 : w.params.followText "set-order" = true ∨ t1.led = true := by rw [e2]; exact z.led
    by_cases hf : t1.tooFull = true
    · have full : (M.length + 1) * 5 ≥ t.mask * 3 := by
        have q := hf
        unfold SetTable.tooFull at q
        rw [decide_eq_true_eq, e4, e1] at q
        exact q
      have sz1 : t1.place.size = es1.size := by rw [tok.num, List.length_map, n1]
      have fits1 : t1.fits es1.size = true := by
        have e6 : t1.dummies.size = 0 := by rw [tok.nod]; rfl
        have e7 := z.tab.mok
        unfold SetTable.fits SetTable.fill
        simp only [Bool.and_eq_true, beq_iff_eq, decide_eq_true_eq]
        rcases e7 with (e7 | e7 | e7) | e7 <;> omega
      rw [if_pos (by rw [hf]; decide)]
      refine wpAny_bind ?_
      have go : ∀ N', SetTable.sizeAbove (SetTable.grown (M.length + 1)) - 1 = N' → MaskR N' → SetTable.sizeAbove (SetTable.grown (M.length + 1)) ≤ 512 → (M.length + 1) * 5 < N' * 3 →
          wpAny (model P w) A (setRelay a (SetTable.grown (es.size + 1))) (fun _ s' => wpAny (model P w) A (pure true) Q E s') E { s with heap := h1 } := fun N' g1 g2 g3 g4 => by
        rw [len]
        refine relay (s := { s with heap := h1 }) ho1 ⟨hex.1, hex.2.1, hex.2.2⟩ rfl m1 fits1 m4 key1 led1 (by rw [m5]; exact few) g1 g2 g3 (by rw [m5]; exact g4) fun h2 M2 es2 ep2 t2 sb2 z2 pm2 => ?_
        exact wpAny_pure (q h2 M2 es2 ep2 t2 (sb.trans sb2) z2 (pm2.trans m2))
      rcases z.tab.mok with (e7 | e7 | e7) | e7
      · have e8 : M.length = 4 := by omega
        exact go 31 (by rw [e8, size_20]) (.inl (.inr (.inl rfl))) (by rw [e8, size_20]; decide) (by omega)
      · have e8 : M.length = 18 := by omega
        exact go 127 (by rw [e8, size_76]) (.inl (.inr (.inr rfl))) (by rw [e8, size_76]; decide) (by omega)
      · have e8 : M.length = 76 := by omega
        exact go 511 (by rw [e8, size_308]) (.inr rfl) (by rw [e8, size_308]; decide) (by omega)
      · omega
    · rw [if_neg (by simpa using hf)]
      refine wpAny_pure (q h1 M1 es1 (ep + 1) t1 sb ⟨⟨_, ho1, ⟨hex.1, hex.2.1, hex.2.2⟩, rfl⟩, m1, tok, m4, key1, led1, ?_, by rw [m5]; exact few⟩ m2)
      have q := hf
      unfold SetTable.tooFull at q
      rw [decide_eq_true_eq, e4, e1] at q
      rw [m5, e1]
      omega
  rw [p1, hes]
  by_cases pl : (t.put j).1.plain = true
  · rw [if_pos pl]
    refine wpAny_bind (hash_word zk fun c => ?_)
    cases c with
    | true =>
      simp only [if_true]
      exact tail _ p3 p4 p5 p9
    | false =>
      simp only [Bool.false_eq_true, if_false]
      exact tail _ ⟨p3.up, p3.nod, p3.num, p3.mok, p3.low, p3.got⟩ p4 p5 p9
  · rw [if_neg pl]
    refine wpAny_bind (wpAny_pure ?_)
    simp only [if_true]
    exact tail _ p3 p4 p5 p9
theorem SetK.still {h' : Heap} (z : SetK w h a M es ep t) (ha : ∀ o, h.get? a = some o → h'.get? a = some o) (hk : ∀ p ∈ M, Is h' p.2 p.1) : SetK w h' a M es ep t := by
  obtain ⟨o, e1, e2⟩ := z.obj
  exact { z with obj := ⟨o, ha o e1, e2⟩, key := hk }
abbrev newS (w : World) : Obj := { cls := .type "set", dict := none, data := .set #[] 0 (.fresh 0 0 (!w.params.followText "set-order")) }
theorem set_new (e : h.get? a = some (newS w)) : SetK w h a [] #[] 0 (.fresh 0 0 (!w.params.followText "set-order")) where
  obj := ⟨_, e, ⟨rfl, rfl, rfl⟩, rfl⟩
  ent := rfl
  tab := { up := List.Pairwise.nil, nod := rfl, num := rfl, mok := .inl (.inl rfl), low := fun _ q => (nomatch q), got := fun i _ _ q => (by simp at q) }
  dif := List.nodup_nil
  key := fun _ q => nomatch q
  led := by
    show _ ∨ (!w.params.followText "set-order") = true
    cases w.params.followText "set-order" <;> simp
  free := by show 0 * 5 < 7 * 3; omega
  few := by show 0 < 300; omega
theorem fill {I S : Addr} {fp wr : List Addr} {G : Array GenState → Array GenState → Prop} {Pv : Nat → Value → Prop} {St : Nat → Shared → Prop} {R : Result → Shared → Prop} {ks : List (Addr × NestedKey)} {h0 : Heap} (V : WalksS P w A.in1 I fp wr G ks.length Pv St)
    (notf : S ∉ fp) (few : ks.length < 300) (val : ∀ i v, Pv i v → ∃ p, ks[i]? = some p ∧ v = .ref p.1) (key : ∀ p ∈ ks, Is h0 p.2 p.1) (nS : h0.get? S = none) (nw : ∀ c ∈ wr, h0.get? c = none) (hu : A.in1.units + 8 < cLine)
    (fin : ∀ s' M es ep t, SetK w s'.heap S M es ep t → (∀ k, k ∈ M.map (·.2) ↔ k ∈ ks.map (·.2)) → M.length ≤ ks.length → (∀ p ∈ M, p ∈ ks) → (∀ c o, h0.get? c = some o → s'.heap.get? c = some o) → s'.gens = s.gens ∨ G s.gens s'.gens → s'.drawn = s.drawn → s'.os = s.os → R (.ok (.ret .none)) s') :
    ∀ (m i : Nat) (s1 : Shared), i + m = ks.length → St i s1 → (∀ c o, h0.get? c = some o → s1.heap.get? c = some o) → (G s.gens s1.gens ∧ s1.drawn = s.drawn ∧ s1.os = s.os) → (∃ M es ep t, SetK w s1.heap S M es ep t ∧ M.length ≤ i ∧ (∀ k, k ∈ M.map (·.2) ↔ k ∈ (ks.take i).map (·.2)) ∧ ∀ p ∈ M, p ∈ ks) →
      codeAny (model P w) A (.builtin "set.update.loop" ⟨[.ref S, .ref I], []⟩) R s1 := by
  have notw : S ∉ wr := fun q => notf (V.sub _ q)
  have old : ∀ {s1 s2 : Shared}, Moved wr G s1 s2 → (∀ c o, h0.get? c = some o → s1.heap.get? c = some o) → ∀ c o, h0.get? c = some o → s2.heap.get? c = some o := fun mv kp c o e => by
    refine mv.heap c o (fun q => ?_) (kp c o e)
    rw [nw c q] at e
    cases e
  have isAt : ∀ {h2 : Heap}, (∀ c o, h0.get? c = some o → h2.get? c = some o) → ∀ p ∈ ks, Is h2 p.2 p.1 := fun kp p hp => (key p hp).mono fun c o _ _ e _ => kp c o e
  intro m
  induction m with
  | zero =>
    rintro i s1 him hst kp ⟨g1, g2, g3⟩ ⟨M, es, ep, t, z, ml, mm, mk⟩
    have hi : i = ks.length := by omega
    subst hi
    rw [List.take_length] at mm
    refine codeAny_builtin F.entry_set_update_loop ?_
    rw [Around.under_plainId F.plain_set_update_loop _]
    show wpAny _ A.in1 (pyNext (.ref I) >>= _) _ _ _
    refine wpAny_bind (V.done s1 _ _ hst fun s2 mv => ?_)
    show wpAny _ A.in1 (ret Value.none) _ _ _
    have kp2 := old mv kp
    have z2 := z.still (fun o e => mv.heap S o notw e) fun p hp => isAt kp2 p (mk p hp)
    exact wpAny_pure (fin s2 M es ep t z2 mm ml mk kp2 (.inr (V.gtrans _ _ _ g1 mv.gens)) (mv.drawn.trans g2) (mv.os.trans g3))
  | succ m ih =>
    rintro i s1 him hst kp ⟨g1, g2, g3⟩ ⟨M, es, ep, t, z, ml, mm, mk⟩
    have hlt : i < ks.length := by omega
    refine codeAny_builtin F.entry_set_update_loop ?_
    rw [Around.under_plainId F.plain_set_update_loop _]
    show wpAny _ A.in1 (pyNext (.ref I) >>= _) _ _ _
    refine wpAny_bind (V.item i s1 _ _ hlt hst fun v s2 hv hst2 mv => ?_)
    obtain ⟨p, hp, rfl⟩ := val i v hv
    have kp2 := old mv kp
    have pin : p ∈ ks := List.mem_of_getElem? hp
    have z2 := z.still (fun o e => mv.heap S o notw e) fun q hq => isAt kp2 q (mk q hq)
    have hpi : ks[i] = p := (List.getElem?_eq_some_iff.mp hp).2
    have tk : ks.take (i + 1) = ks.take i ++ [p] := by rw [List.take_succ, hp]; rfl
    have zp := isAt kp2 p pin
    show wpAny _ A.in1 (holding [Value.ref p.1] (setAdd S (.ref p.1)) >>= _) _ _ _
    refine wpAny_bind (wpAny_holding ?_)
    unfold setAdd
    refine wpAny_holding ?_
    refine wpAny_bind ((nestedKind P w).pyHash hu zp.nk ?_)
    refine add_key (s := { s2 with toks := s2.toks + (nestedKind P w).draws p.2 }) z2 hu zp (by omega) (fun hm => ?_) fun nk h3 M3 es3 ep3 t3 sb z3 pm3 => ?_
    · refine wpAny_pure ⟨plainId_quiet F.plain_set_update_loop _, ih (i + 1) _ (by omega) (V.frame _ s2 _ _ hst2 (Nat.le_add_right _ _) fun c hc o e => e) kp2 ⟨V.gtrans _ _ _ g1 mv.gens, mv.drawn.trans g2, mv.os.trans g3⟩ ⟨M, es, ep, t, z2, by omega, fun k => ?_, mk⟩⟩
      rw [tk, List.map_append, List.mem_append, ← mm]
      refine ⟨.inl, fun h => h.elim id fun h => ?_⟩
      rw [List.map_cons, List.map_nil, List.mem_singleton] at h
      rw [h]
      exact hm
    have kp3 : ∀ c o, h0.get? c = some o → h3.get? c = some o := fun c o e => (sb.2 c (fun q => by rw [q, nS] at e; cases e)).trans (kp2 c o e)
    refine wpAny_pure ⟨plainId_quiet F.plain_set_update_loop _, ih (i + 1) _ (by omega) (V.frame _ s2 _ _ hst2 (Nat.le_add_right _ _) fun c hc o e => ?_) kp3 ⟨V.gtrans _ _ _ g1 mv.gens, mv.drawn.trans g2, mv.os.trans g3⟩ ⟨M3, es3, ep3, t3, z3, ?_, fun k => ?_, fun q hq => ?_⟩⟩
    · exact (sb.2 c (fun q : c = S => notf (by rw [← q]; exact hc))).trans e
    · have := pm3.length_eq
      rw [List.length_cons] at this
      omega
    · rw [(pm3.map (·.2)).mem_iff, tk, List.map_append, List.mem_append, ← mm, List.map_cons, List.mem_cons, List.map_cons, List.map_nil, List.mem_singleton]
      exact or_comm
    · rcases List.mem_cons.mp (pm3.mem_iff.mp hq) with e | e
      · rw [e]; exact pin
      · exact mk q e
theorem set_of {l : Addr} {vs : Array Value} {ks : List (Addr × NestedKey)} {Q : Value → Shared → Prop} (cold : A.handled = none) (hl : s.heap.IsList l vs) (hv : vs.toList = ks.map fun p => Value.ref p.1) (key : ∀ p ∈ ks, Is s.heap p.2 p.1) (few : ks.length < 300) (hu : A.units + 20 < cLine)
    (q : ∀ h' tk M es ep t, SetK w h' s.heap.objs.size M es ep t → (∀ k, k ∈ M.map (·.2) ↔ k ∈ ks.map (·.2)) → M.length ≤ ks.length → (∀ p ∈ M, p ∈ ks) → (∀ c o, s.heap.get? c = some o → h'.get? c = some o) → Q (.ref s.heap.objs.size) { s with heap := h', toks := tk }) :
    wpAny (model P w) A (call (.type "set") [.ref l]) Q E s := by
  have vsz : vs.size = ks.length := by rw [← Array.length_toList, hv, List.length_map]
  obtain ⟨c, tl, hmro⟩ := F.called_set.mro
  have hmade := F.called_set.made
  have hsub := F.called_set.sub
  refine wpAny_call (codeAny_of_tree ?_)
  show wpAny _ _ (callAny (.type "set") _) _ _ _
  refine wpAny_pure ⟨Code.quiet_builtin _ (by decide +kernel), codeAny_builtin F.entry_type_call ?_⟩
  rw [Around.under_plain (weight_type_call_type "set" [.ref l] []) rfl]
  have h1 := F.called_set.notType
  have h2 := F.called_set.canCreate
  have hct := F.typeCall_set_1 (.ref l)
  repeat (any_goals (first | assumption | wp_step))
  refine codeAny_mono (code_set_led1 (.ref l) (E := E) (Q₁ := fun v s1 => v = .ref s.heap.objs.size ∧ s1 = { s with heap := s.heap.push (newS w) }) ⟨rfl, rfl⟩) fun r s1 hr => ?_
  match r, hr with
  | .error _, hr => exact hr
  | .ok (.ret v), hr =>
    obtain ⟨rfl, rfl⟩ := hr
    have hS : (s.heap.push (newS w)).get? s.heap.objs.size = some (newS w) := Heap.get?_push_size _ rfl
    have hT : Shared.TypeIs { s with heap := s.heap.push (newS w) } (.ref s.heap.objs.size) "set" := ⟨_, hS, rfl⟩
    have hli := F.called_set.init.lookup
    have hbi := F.called_set.init.bind (.ref s.heap.objs.size)
    repeat (any_goals (first | assumption | wp_step))
    refine codeAny_mono (codeAny_call_builtin (R := wants (fun r s2 => r = .none ∧ ∃ h' tk M es ep t, s2 = { s with heap := h', toks := tk } ∧ SetK w h' s.heap.objs.size M es ep t ∧ (∀ k, k ∈ M.map (·.2) ↔ k ∈ ks.map (·.2)) ∧ M.length ≤ ks.length ∧ (∀ p ∈ M, p ∈ ks) ∧ ∀ c o, s.heap.get? c = some o → h'.get? c = some o) E) F.called_set.init.plain F.entry_set_init (check_set_init_1 hT ?_)) fun r2 s2 hr2 => ?_
    · obtain ⟨ol, hol, hcl, nl, hdl⟩ := hl
      obtain ⟨ocls, odict, odata, oslots⟩ := ol
      simp only at hcl hdl
      subst hcl hdl
      have hol' : (s.heap.push (newS w)).get? l = some { cls := .type "list", dict := odict, data := .seq vs nl, slots := oslots } := Heap.get?_push_of_some _ hol
      have hsls := F.sub_list_set
      have hslf := F.sub_list_frozenset
      have hne : (Value.type "list" == Value.type "dict") = false := by decide
      have isl : (s.heap.push (newS w)).IsList l vs := ⟨_, hol', rfl, nl, rfl⟩
      unfold Builtin.«set.__init__» noKeywords Builtin.Frozenset.updateFrom
      generalize hPI : pyIter = PI
      wp_walk
      subst hPI
      refine wpAny_pyIter_list isl ?_
      refine wpAny_bind (wpAny_runValue ?_)
      have lS : l < s.heap.objs.size := Heap.lt_size hol
      have sz1 : (s.heap.push (newS w)).objs.size = s.heap.objs.size + 1 := Heap.size_push ..
      have cold3 : A.in1.in1.in1.handled = none := by simp [cold]
      have none_of : ∀ c, s.heap.objs.size ≤ c → s.heap.get? c = none := fun c hc => by
        cases e : s.heap.get? c with
        | none => rfl
        | some o => exact absurd (Heap.lt_size e) (Nat.not_lt.mpr hc)
      have V := (Walks.list (prog := P) (w := w) cold3 (s.heap.push (newS w)).objs.size l (by rw [sz1]; exact Nat.ne_of_lt (Nat.lt_succ_of_lt lS)) vs).toS
      rw [vsz] at V
      have hget : ((s.heap.push (newS w)).push { cls := .type "list_iterator", data := .fields #[.ref l, .int 0 0] }).get? s.heap.objs.size = some (newS w) := Heap.get?_push_of_some _ hS
      refine fill (s := { s with heap := (s.heap.push (newS w)).push { cls := .type "list_iterator", data := .fields #[.ref l, .int 0 0] } }) (ks := ks) (h0 := s.heap) V (S := s.heap.objs.size) ?_ few (fun i v hv' => ?_) key (none_of _ (Nat.le_refl _)) (fun c hc => none_of c ?_) ?_ (fun s' M es ep t z zm zl zp kp g1 g2 g3 => ?_)
        ks.length 0 _ (by omega) ⟨⟨_, Heap.get?_push_size _ rfl, rfl, rfl⟩, isl.push _⟩ (fun c o e => Heap.get?_push_of_some _ (Heap.get?_push_of_some _ e)) ⟨V.grefl _, rfl, rfl⟩ ⟨[], #[], 0, _, set_new hget, Nat.le_refl _, fun k => by simp, fun _ q => nomatch q⟩
      · rw [sz1]
        simp only [List.mem_cons, List.not_mem_nil, or_false, not_or]
        exact ⟨Nat.ne_of_lt (Nat.lt_succ_self _), Nat.ne_of_gt lS⟩
      · have e : vs.toList[i]? = some v := by rw [Array.getElem?_toList]; exact hv'
        rw [hv, List.getElem?_map] at e
        cases ek : ks[i]? with
        | none => rw [ek] at e; cases e
        | some p =>
          rw [ek] at e
          exact ⟨p, rfl, (Option.some.inj e).symm⟩
      · rw [List.mem_singleton.mp hc, sz1]
        exact Nat.le_succ _
      · show A.units + 3 + 8 < cLine
        omega
      · obtain ⟨h', g', d', tk', os'⟩ := s'
        have e1 : g' = s.gens := by
          rcases g1 with g1 | g1
          · exact g1
          · exact g1
        have e2 : d' = s.drawn := g2
        have e3 : os' = s.os := g3
        subst e1 e2 e3
        show wpAny _ _ _ _ _ _
        refine wpAny_pure ?_
        show wpAny _ _ (ret Value.none) _ _ _
        exact wpAny_pure ⟨rfl, h', tk', M, es, ep, t, rfl, z, zm, zl, zp, kp⟩
    · match r2, hr2 with
      | .error _, hr2 => exact hr2
      | .ok (.ret _), hr2 =>
        obtain ⟨rfl, h', tk, M, es, ep, t, rfl, z, zm, zl, zp, zk⟩ := hr2
        repeat (any_goals (first | assumption | wp_step))
        exact q h' tk M es ep t z zm zl zp zk
      | .ok (.brk), hr2 => exact hr2.elim
      | .ok (.cont), hr2 => exact hr2.elim
      | .ok (.next), hr2 => exact hr2.elim
  | .ok (.brk), hr => exact hr.elim
  | .ok (.cont), hr => exact hr.elim
  | .ok (.next), hr => exact hr.elim
end
end CC
namespace CC
open PySem PySem.Spec PyProof.Rows L2
section
variable {X : Cx} {C : CallSem} {G : Nat → Option D} {W : WX} {e : Expr} {A : Xp}
theorem flat_of {k : NestedKey} (h : flatB k = true) : Flat k := by
  cases k with
  | tup ks =>
    intro k hk
    have := List.all_eq_true.mp h k hk
    cases k with
    | num i => exact .inl ⟨i, rfl⟩
    | text x => exact .inr ⟨x, rfl⟩
    | none => cases this
    | tup _ => cases this
  | _ => cases h
theorem kTs_at {pins : List (Addr × Obj)} {σ : L2.St} {H : Hp} {s : Shared} {m : Mp} (I : Inv X pins σ H s) : ∀ {ds : List D} {xs : List V} {us : List Value} {ks : List NestedKey}, Rps X.kw X.mg m H ds xs → Vals xs us → kTs ds = some ks →
    ∃ ps : List (Addr × NestedKey), ps.map (·.2) = ks ∧ us = ps.map (fun p => Value.ref p.1) ∧ ∀ p ∈ ps, (nestedKind X.prog X.w).is s.heap p.2 p.1 := by
  intro ds
  induction ds with
  | nil =>
    intro xs us ks r ru h
    cases h
    cases r
    cases ru
    exact ⟨[], rfl, rfl, fun _ q => nomatch q⟩
  | cons d ds ih =>
    intro xs us ks r ru h
    cases r with
    | cons rd rs =>
      cases ru with
      | cons ud uds =>
        have h' : ((kT d).bind fun k => (kTs ds).map (k :: ·)) = some ks := h
        cases hk : kT d with
        | none => rw [hk] at h'; cases h'
        | some k =>
          rw [hk] at h'
          cases hks : kTs ds with
          | none => rw [hks] at h'; cases h'
          | some ks' =>
            rw [hks] at h'
            cases h'
            obtain ⟨b, rfl, rfl, hi, _⟩ := kT_at I rd ud hk
            obtain ⟨ps, p1, p2, p3⟩ := ih rs uds hks
            exact ⟨(b, k) :: ps, by rw [List.map_cons, p1], by rw [List.map_cons, p2], fun p hp => (List.mem_cons.mp hp).elim (fun e => by rw [e]; exact hi) (p3 p)⟩
theorem uds_mem {k : NestedKey} : ∀ {l : List NestedKey}, k ∈ uds l ↔ k ∈ l
  | [] => Iff.rfl
  | x :: l => by
    unfold uds
    split
    · rename_i c
      rw [uds_mem (l := l), List.mem_cons]
      exact ⟨.inr, fun h => h.elim (fun e => by rw [e]; exact c) id⟩
    · rw [List.mem_cons, List.mem_cons, uds_mem (l := l)]
theorem uds_nodup : ∀ {l : List NestedKey}, (uds l).Nodup
  | [] => List.nodup_nil
  | x :: l => by
    unfold uds
    split
    · exact uds_nodup
    · rename_i c
      exact List.nodup_cons.mpr ⟨fun h => c (uds_mem.mp h), uds_nodup⟩
theorem uds_of : ∀ {l : List NestedKey}, l.Nodup → uds l = l
  | [], _ => rfl
  | x :: l, h => by
    obtain ⟨h1, h2⟩ := List.nodup_cons.mp h
    unfold uds
    rw [if_neg h1, uds_of h2]
theorem same_len {a b : List NestedKey} (ha : a.Nodup) (hb : b.Nodup) (h : ∀ k, k ∈ a ↔ k ∈ b) : a.length = b.length := ((List.perm_ext_iff_of_nodup ha hb).mpr h).length_eq
theorem de_lset {p p2 q pos : Pos} (cx : Ctx true X) (hg : Gl X "len") (hg2 : Gl X "set") (he : PE X e (tD X C G W A)) (na : starEach [e] X.env = (false, eval e X.env) :: starEach [] X.env := by rfl) :
    PE X (.Call (.Name "len" p) [.Call (.Name "set" p2) [e] [] q] [] pos) (tD X C G W (.lset A)) := by
  refine ⟨fun pins s σ H Q I ⟨m, ρ, S, ra, re, po⟩ => ?_⟩
  refine Call_ (ld_blt I hg (cx.nob "len" (by decide +kernel)) PySem.boot_len ?_)
  refine PyProof.Rows.callWith_builtin1 (PyProof.Rows.args_cons ?_ rfl) rfl rfl
  refine Call_ (ld_blt I hg2 (cx.nob "set" (by decide +kernel)) PyProof.Rows.boot_set ?_)
  refine PyProof.Rows.callWith_type1 (PyProof.Rows.args_cons (thn (he.run pins s σ H _ I ⟨m, ρ, S, ra, re, Post.bind po⟩) fun u s1 ⟨x, H1, I1, rx, m1, d, S1, l1, ra1, r1, p1⟩ => PyProof.Rows.args_nil ?_) na) na rfl
  obtain ⟨n, hn, p2⟩ := post_opt p1
  cases hd : lstD S1 d with
  | none => rw [hd] at hn; cases hn
  | some ds =>
    have hn' : (lsetL ds).map (fun (n : Nat) => D.int n) = some n := by rw [hd] at hn; exact hn
    cases hk : kTs ds with
    | none =>
      have e : lsetL ds = none := by unfold lsetL; rw [hk]; rfl
      rw [e] at hn'
      cases hn'
    | some ks =>
      have e : lsetL ds = if ks.all flatB && decide (ks.length < 300) then some (uds ks).length else none := by unfold lsetL; rw [hk]; rfl
      rw [e] at hn'
      by_cases c : (ks.all flatB && decide (ks.length < 300)) = true
      · rw [if_pos c] at hn'
        cases hn'
        simp only [Bool.and_eq_true, decide_eq_true_eq] at c
        obtain ⟨c2, c3⟩ := c
        obtain ⟨a, vs, rfl, h1, h2⟩ := ra1.seqD r1 hd
        cases rx
        obtain ⟨its, r, pl, hz⟩ := I1.list h1
        obtain ⟨ps, q1, q2, q3⟩ := kTs_at I1 h2 r hk
        have q4 : ps.length = ks.length := by rw [← q1, List.length_map]
        refine set_of (I1.ok.hd (cx.calm rfl)) pl.isList (ks := ps) (by simpa using q2) (fun p hp => ⟨(q3 p hp).1, (q3 p hp).2, flat_of (List.all_eq_true.mp c2 p.2 (by rw [← q1]; exact List.mem_map_of_mem hp))⟩) (by rw [q4]; exact c3) (by have := cx.hu; omega) fun h' tk M es ep t z zm zl _ hk2 => ?_
        refine PyProof.Rows.args_nil ?_
        obtain ⟨o, ho, hex, hdd⟩ := z.obj
        have I2 : Inv X pins σ H1 { s1 with heap := h', toks := tk } := I1.kept fun b o e => hk2 b o e
        have es2 := ents_len z.ent
        have sl : M.length = (uds ks).length := by
          rw [← List.length_map (f := (·.2))]
          exact same_len z.dif uds_nodup fun k => by rw [zm, q1, uds_mem]
        refine call_len_set ho hex hdd z.fits (by rw [es2]; have := q4; omega) ⟨.int (uds ks).length, H1, I2.tok _, ⟨_, by rw [es2, sl]⟩, ?_⟩
        exact p2.now ra1 (.int _)
      · rw [if_neg c] at hn'
        cases hn'
theorem insI_perm {x : Int} : ∀ {l : List Int}, (insI x l).Perm (x :: l)
  | [] => List.Perm.refl _
  | y :: l => by
    unfold insI
    split
    · exact List.Perm.refl _
    · exact ((insI_perm (l := l)).cons y).trans (List.Perm.swap x y l)
theorem isort_perm : ∀ {l : List Int}, (isort l).Perm l
  | [] => List.Perm.refl _
  | x :: l => insI_perm.trans ((isort_perm (l := l)).cons x)
theorem insI_asc {x : Int} : ∀ {l : List Int}, l.Pairwise (· ≤ ·) → (insI x l).Pairwise (· ≤ ·)
  | [], _ => List.pairwise_singleton _ _
  | y :: l, h => by
    have h1 := List.pairwise_cons.mp h
    unfold insI
    split
    · rename_i c
      refine List.pairwise_cons.mpr ⟨fun z hz => ?_, h⟩
      rcases List.mem_cons.mp hz with rfl | hz
      · exact c
      · exact Int.le_trans c (h1.1 z hz)
    · rename_i c
      refine List.pairwise_cons.mpr ⟨fun z hz => ?_, insI_asc h1.2⟩
      rcases List.mem_cons.mp (insI_perm.mem_iff.mp hz) with rfl | hz
      · omega
      · exact h1.1 z hz
theorem isort_asc : ∀ {l : List Int}, (isort l).Pairwise (· ≤ ·)
  | [] => List.Pairwise.nil
  | _ :: l => insI_asc (isort_asc (l := l))
theorem asc_one : ∀ {a b : List Int}, a.Perm b → a.Pairwise (· ≤ ·) → b.Pairwise (· ≤ ·) → a = b
  | [], b, p, _, _ => (List.nil_perm.mp p).symm ▸ rfl
  | x :: a, [], p, _, _ => absurd p.length_eq (by simp)
  | x :: a, y :: b, p, h, k => by
    have h1 := List.pairwise_cons.mp h
    have k1 := List.pairwise_cons.mp k
    have e : x = y := by
      have m1 : x ∈ y :: b := p.mem_iff.mp List.mem_cons_self
      have m2 : y ∈ x :: a := p.mem_iff.mpr List.mem_cons_self
      rcases List.mem_cons.mp m1 with e | m1
      · exact e
      · rcases List.mem_cons.mp m2 with e | m2
        · exact e.symm
        · exact Int.le_antisymm (h1.1 y m2) (k1.1 x m1)
    subst e
    rw [asc_one (List.perm_cons _ |>.mp p) h1.2 k1.2]
theorem bi_sorted {cb : Bool} (cx : Ctx cb X) : CallR X (.builtin "sorted") (rBi X.kw X.mg .sorted) := by
  intro pins s σ H xs us Q I r ⟨W, m, S, ds, ra, rs, p⟩
  match ds, p, rs with
  | [], p, rs => exact p.elim
  | d :: e :: l, p, rs => exact p.elim
  | [d], p, rs =>
    obtain ⟨x, rfl, rx⟩ := rps1 rs
    cases q : (lstD S d).bind intsOf with
    | none =>
      have p' : Post X.kw X.mg W (Rp X.kw X.mg) m H (match (lstD S d).bind intsOf with
        | some ns => mk (.lst ((isort ns).map D.int)) S
        | none => .bad) Q := p
      rw [q] at p'
      exact p'.elim
    | some ns =>
      have p' : Post X.kw X.mg W (Rp X.kw X.mg) m H (match (lstD S d).bind intsOf with
        | some ns => mk (.lst ((isort ns).map D.int)) S
        | none => .bad) Q := p
      rw [q] at p'
      obtain ⟨a, rfl, g⟩ := ints_at ra rx q
      refine cr_sortedI pins s σ H _ us Q I r ⟨a, ns, rfl, g, fun ns' pp pm ps hp => ?_⟩
      rw [asc_one (pm.trans isort_perm.symm) ps isort_asc]
      exact post_mk ra (rps_ints _) p' pp hp
end
end CC
namespace CC
open PySem PySem.Spec PyProof.Rows L2
section
variable {K : KW} {mg : Str → Option Value} {m0 : Mp} {H0 : Hp}
theorem SqK.eq {k : Bool} {K : PySem.W.Frag} {H : Hp} {a : Addr} {xs : List V} (h : SqK k K H a xs) : SqK k K H a xs := h
end
section
variable {X : Cx} {C : CallSem} {G : Nat → Option D} {W : WX} {e o : Expr} {A B : Xp} {apos cpos : Pos}
theorem prm1 {f : List D → Sto → R D} {ρ : Env} {S : Sto} : ev C G (.prm f (.cons A .nil)) ρ S = (ev C G A ρ S).bind fun x S1 => f [x] S1 := by
  show ((ev C G A ρ S).bind fun x S1 => (R.ok [] S1).bind fun xs S2 => .ok (x :: xs) S2).bind (fun xs S1 => f xs S1) = _
  cases ev C G A ρ S <;> rfl
end
end CC
namespace CC
open PySem PySem.Spec PyProof.Rows L2
end CC
namespace CC
open PySem PySem.Spec PyProof.Rows L2
def lrgF (xs : List D) (S : Sto) : R D := match xs with
  | [.int n] => if small62 n = true ∧ n ≤ 16777216 then mk (.lst (rangeD 0 n.toNat)) S else .bad
  | _ => .bad
section
variable {X : Cx} {C : CallSem} {G : Nat → Option D} {W : WX} {e : Expr} {A : Xp}
theorem rng_rps {K : KW} {mg : Str → Option Value} {m : Mp} {H : Hp} {n : Int} : Rps K mg m H (rangeD 0 n.toNat) (rgV 0 n) := by
  have e1 : rangeD 0 n.toNat = ((List.range n.toNat).map fun i : Nat => (0 : Int) + (i : Nat)).map D.int := by unfold rangeD; rw [List.map_map]; rfl
  have e2 : rgV 0 n = ((List.range n.toNat).map fun i : Nat => (0 : Int) + (i : Nat)).map V.int := by unfold rgV; rw [List.map_map, Int.sub_zero]; rfl
  rw [e1, e2]
  exact rps_ints _
theorem de_lrg {p p2 pos pos2 : Pos} (cx : Ctx true X) (hg : Gl X "list") (hg2 : Gl X "range") (ha : PE X e (tD X C G W A)) (na2 : starEach [e] X.env = (false, eval e X.env) :: starEach [] X.env := by rfl)
    (na : starEach [.Call (.Name "range" p2) [e] [] pos2] X.env = (false, eval (.Call (.Name "range" p2) [e] [] pos2) X.env) :: starEach [] X.env := by rfl) :
    PE X (.Call (.Name "list" p) [.Call (.Name "range" p2) [e] [] pos2] [] pos) (tD X C G W (.prm lrgF (.cons A .nil))) :=
  PE_imp (pe_listRg (cx.calm rfl) hg (cx.nob "list" (by decide +kernel)) (prg_1 hg2 (cx.nob "range" (by decide +kernel)) ha na2) na) fun σ H Q ⟨m, ρ, S, ra, re, p⟩ => by
    rw [prm1] at p
    refine ⟨m, ρ, S, ra, re, Post.imp (Post.bind p) fun x H1 ⟨m1, d, S1, l1, ra1, r1, p1⟩ => ?_⟩
    cases d with
    | int n =>
      cases r1
      replace p1 : Post X.kw X.mg (fun c d H' => W c d σ H') (Rp X.kw X.mg) m1 H1 (if small62 n = true ∧ n ≤ 16777216 then mk (.lst (rangeD 0 n.toNat)) S1 else .bad) Q := p1
      by_cases c : small62 n = true ∧ n ≤ 16777216
      · rw [if_pos c] at p1
        obtain ⟨c1, c2⟩ := small_62 c.1
        exact ⟨n, rfl, ⟨by omega, by omega, by omega, by omega, by omega⟩, post_mk ra1 rng_rps p1⟩
      · rw [if_neg c] at p1
        exact p1.elim
    | _ => exact p1.elim
end
end CC
namespace CC
open PySem PySem.Spec PyProof.Rows L2
end CC
namespace CC
open PySem PySem.Spec PyProof.Rows L2
structure MAt (P : Program) (w : World) (K : PySem.W.Frag) (mg : Str → Option Value) (base : Heap) (k : Nat) (c : Nat) (m : Str) (np : Nat) (kw : List (Nat × List Str × List Nat)) (cs : List D → Sto → R D) : Prop where
  ex : ∃ (x : Str) (Cl f : Addr) (fd : FuncData) (ps : List Str), insNames[c]? = some x ∧ mg x = some (.ref Cl) ∧ Cls K Cl ∧ Meth K Cl m f ∧ ps.length = np ∧ Binds K fd ps [] ∧ (∀ q ∈ kw, KB fd ps q) ∧ FnG P w K mg base k f fd ps cs
theorem MAt.mono {P : Program} {w : World} {K : PySem.W.Frag} {mg : Str → Option Value} {base : Heap} {j k c np : Nat} {m : Str} {kw : List (Nat × List Str × List Nat)} {cs : List D → Sto → R D} (h : MAt P w K mg base j c m np kw cs) (l : j ≤ k) : MAt P w K mg base k c m np kw cs := by
  obtain ⟨x, Cl, f, fd, ps, h1, h2, h3, h4, h5, h6, h7, h8⟩ := h.ex
  exact ⟨x, Cl, f, fd, ps, h1, h2, h3, h4, h5, h6, h7, h8.mono l⟩
end CC
namespace CC
open PySem PySem.Spec PyProof.Rows L2
end CC
namespace CC
open PySem PySem.Spec PyProof.Rows L2
end CC
namespace CC
open PySem PySem.Spec PyProof.Rows L2
def plainRs : Rs → Bool
  | .nx _ _ => true
  | .exc _ _ _ _ => true
  | .bad => true
  | _ => false
section
variable {X : Cx} {C : CallSem} {G : Nat → Option D} {W : WX} {e : Expr} {A B : Xp} {pos p : Pos} {n : Nat}
theorem PostS.plain {K : KW} {mg : Str → Option Value} {m : Mp} {H : Hp} {r : Rs} {D1 D2 : Ends} (h : PostS K mg W m H r D1) (hp : plainRs r = true) (hq : D1.nx = D2.nx) : PostS K mg W m H r D2 := by
  cases r with
  | nx ρ S => exact fun m' H' σ l ra re => hq ▸ h m' H' σ l ra re
  | exc _ _ _ _ => exact h
  | bad => exact h
  | _ => cases hp
end
end CC
namespace CC
open PySem PySem.Spec PyProof.Rows L2
end CC
namespace CC
open PySem PySem.Spec PyProof.Rows L2
end CC
namespace CC
open PySem PySem.Spec PyProof.Rows L2
end CC
namespace CC
open PySem PySem.Spec PyProof.Rows L2
end CC
namespace CC
open PySem PySem.Spec PyProof.Rows L2
end CC
namespace CC
open PySem PySem.Spec PyProof.Rows L2
end CC
namespace CC
open PySem PySem.Spec PyProof.Rows L2
end CC
namespace CC
open PySem PySem.Spec PyProof.Rows L2
def usort : List Int → List Int
  | [] => []
  | x :: l => if x ∈ l then usort l else insI x (usort l)
theorem usort_mem {x : Int} : ∀ {l : List Int}, x ∈ usort l ↔ x ∈ l
  | [] => Iff.rfl
  | y :: l => by
    unfold usort
    split
    · rename_i c
      rw [usort_mem (l := l), List.mem_cons]
      exact ⟨.inr, fun h => h.elim (fun e => by rw [e]; exact c) id⟩
    · rw [insI_perm.mem_iff, List.mem_cons, List.mem_cons, usort_mem (l := l)]
theorem usort_le : ∀ {l : List Int}, (usort l).length ≤ l.length
  | [] => Nat.le_refl _
  | y :: l => by
    have := usort_le (l := l)
    unfold usort
    split
    · simp only [List.length_cons]; omega
    · rw [insI_perm.length_eq]; simp only [List.length_cons]; omega
theorem insI_lt {x : Int} {l : List Int} (h : l.Pairwise (· < ·)) (hx : x ∉ l) : (insI x l).Pairwise (· < ·) := by
  have h1 : (insI x l).Pairwise (· ≤ ·) := insI_asc (h.imp fun z => Int.le_of_lt z)
  have h2 : (insI x l).Nodup := insI_perm.nodup_iff.mpr (List.nodup_cons.mpr ⟨hx, h.imp fun z e => by omega⟩)
  exact lt_of_le_nodup _ h1 h2
theorem usort_asc : ∀ {l : List Int}, (usort l).Pairwise (· < ·)
  | [] => List.Pairwise.nil
  | y :: l => by
    unfold usort
    split
    · exact usort_asc
    · rename_i c
      exact insI_lt usort_asc fun h => c (usort_mem.mp h)
theorem asc_same : ∀ {a b : List Int}, a.Pairwise (· < ·) → b.Pairwise (· < ·) → (∀ x, x ∈ a ↔ x ∈ b) → a = b := fun {a b} ha hb h => by
  have na : a.Nodup := ha.imp fun z e => by omega
  have nb : b.Nodup := hb.imp fun z e => by omega
  have p : a.Perm b := (List.perm_ext_iff_of_nodup na nb).mpr h
  exact asc_one p (ha.imp fun z => Int.le_of_lt z) (hb.imp fun z => Int.le_of_lt z)
def ssrtF (xs : List D) (S : Sto) : R D := match xs with
  | [x] => match (lstD S x).bind intsOf with
    | some ns => if ns.length < 4000 then mk (.lst ((usort ns).map D.int)) S else .bad
    | none => .bad
  | _ => .bad
section
variable {P : Program} {w : World} {A : Around} {E : Value → Shared → Prop} {s : Shared} {a : Addr}
theorem intsAre_get : ∀ {l : List Value} {ns : List Int} {i : Nat} {v : Value}, IntsAre l ns → l[i]? = some v → ∃ k tk, ns[i]? = some k ∧ v = .int k tk
  | _, _, i, v, .nil, h => by simp at h
  | _, _, 0, v, .cons k tk _, h => by
    simp at h
    exact ⟨k, tk, rfl, h.symm⟩
  | _, _, i + 1, v, .cons k tk r, h => by
    have := intsAre_get (i := i) (v := v) r (by simpa using h)
    simpa using this
theorem fillI {I S : Addr} {fp wr : List Addr} {G : Array GenState → Array GenState → Prop} {Pv : Nat → Value → Prop} {St : Nat → Shared → Prop} {R : Result → Shared → Prop} {ns : List Int} {h0 : Heap} (V : WalksS P w A.in1 I fp wr G ns.length Pv St)
    (notf : S ∉ fp) (few : ns.length < 4000) (val : ∀ i v, Pv i v → ∃ k tk, ns[i]? = some k ∧ v = .int k tk) (nS : h0.get? S = none) (nw : ∀ c ∈ wr, h0.get? c = none)
    (fin : ∀ s' Fm n, SetR w s'.heap S Fm n → n ≤ ns.length → (∀ k, Fm k = true ↔ k ∈ ns) → (∀ c o, h0.get? c = some o → s'.heap.get? c = some o) → s'.gens = s.gens ∨ G s.gens s'.gens → s'.drawn = s.drawn → s'.os = s.os → R (.ok (.ret .none)) s') :
    ∀ (m i : Nat) (s1 : Shared), i + m = ns.length → St i s1 → (∀ c o, h0.get? c = some o → s1.heap.get? c = some o) → (G s.gens s1.gens ∧ s1.drawn = s.drawn ∧ s1.os = s.os) → (∃ Fm n, SetR w s1.heap S Fm n ∧ n ≤ i ∧ ∀ k, Fm k = true ↔ k ∈ ns.take i) →
      codeAny (model P w) A (.builtin "set.update.loop" ⟨[.ref S, .ref I], []⟩) R s1 := by
  have notw : S ∉ wr := fun q => notf (V.sub _ q)
  have old : ∀ {s1 s2 : Shared}, Moved wr G s1 s2 → (∀ c o, h0.get? c = some o → s1.heap.get? c = some o) → ∀ c o, h0.get? c = some o → s2.heap.get? c = some o := fun mv kp c o e => by
    refine mv.heap c o (fun q => ?_) (kp c o e)
    rw [nw c q] at e
    cases e
  intro m
  induction m with
  | zero =>
    rintro i s1 him hst kp ⟨g1, g2, g3⟩ ⟨Fm, n, z, zn, zm⟩
    have hi : i = ns.length := by omega
    subst hi
    rw [List.take_length] at zm
    refine codeAny_builtin F.entry_set_update_loop ?_
    rw [Around.under_plainId F.plain_set_update_loop _]
    show wpAny _ A.in1 (pyNext (.ref I) >>= _) _ _ _
    refine wpAny_bind (V.done s1 _ _ hst fun s2 mv => ?_)
    show wpAny _ A.in1 (ret Value.none) _ _ _
    have kp2 := old mv kp
    have z2 := z.at fun o e => mv.heap S o notw e
    exact wpAny_pure (fin s2 Fm n z2 zn zm kp2 (.inr (V.gtrans _ _ _ g1 mv.gens)) (mv.drawn.trans g2) (mv.os.trans g3))
  | succ m ih =>
    rintro i s1 him hst kp ⟨g1, g2, g3⟩ ⟨Fm, n, z, zn, zm⟩
    have hlt : i < ns.length := by omega
    refine codeAny_builtin F.entry_set_update_loop ?_
    rw [Around.under_plainId F.plain_set_update_loop _]
    show wpAny _ A.in1 (pyNext (.ref I) >>= _) _ _ _
    refine wpAny_bind (V.item i s1 _ _ hlt hst fun v s2 hv hst2 mv => ?_)
    obtain ⟨k, tk, hk, rfl⟩ := val i v hv
    have kp2 := old mv kp
    have z2 := z.at fun o e => mv.heap S o notw e
    have tke : ns.take (i + 1) = ns.take i ++ [k] := by rw [List.take_succ, hk]; rfl
    show wpAny _ A.in1 (holding [Value.int k tk] (setAdd S (.int k tk)) >>= _) _ _ _
    refine wpAny_bind (wpAny_holding ?_)
    unfold setAdd
    refine wpAny_holding ?_
    refine wpAny_bind ((intKind P w).pyHash (intKind_is P w k tk) ?_)
    refine setR_add_hashed (s := { s2 with toks := s2.toks + 1 }) z2 (by show n + 1 < 4096; omega) fun h3 sb z3 => ?_
    have kp3 : ∀ c o, h0.get? c = some o → h3.get? c = some o := fun c o e => (sb.2 c (fun q => by rw [q, nS] at e; cases e)).trans (kp2 c o e)
    refine wpAny_pure ⟨plainId_quiet F.plain_set_update_loop _, ih (i + 1) _ (by omega) (V.frame _ s2 _ _ hst2 (Nat.le_add_right _ _) fun c hc o e => ?_) kp3 ⟨V.gtrans _ _ _ g1 mv.gens, mv.drawn.trans g2, mv.os.trans g3⟩ ⟨_, _, z3, ?_, fun j => ?_⟩⟩
    · exact (sb.2 c (fun q : c = S => notf (by rw [← q]; exact hc))).trans e
    · split <;> omega
    · rw [tke, Bool.or_eq_true, decide_eq_true_eq, zm, List.mem_append, List.mem_singleton]
theorem set_ofI {l : Addr} {vs : Array Value} {ns : List Int} {Q : Value → Shared → Prop} (cold : A.handled = none) (hl : s.heap.IsList l vs) (hv : IntsAre vs.toList ns) (few : ns.length < 4000)
    (q : ∀ h' tk Fm n, SetR w h' s.heap.objs.size Fm n → n ≤ ns.length → (∀ k, Fm k = true ↔ k ∈ ns) → (∀ c o, s.heap.get? c = some o → h'.get? c = some o) → Q (.ref s.heap.objs.size) { s with heap := h', toks := tk }) :
    wpAny (model P w) A (call (.type "set") [.ref l]) Q E s := by
  have vsz : vs.size = ns.length := by rw [← Array.length_toList, hv.length]
  obtain ⟨c, tl, hmro⟩ := F.called_set.mro
  have hmade := F.called_set.made
  have hsub := F.called_set.sub
  refine wpAny_call (codeAny_of_tree ?_)
  show wpAny _ _ (callAny (.type "set") _) _ _ _
  refine wpAny_pure ⟨Code.quiet_builtin _ (by decide +kernel), codeAny_builtin F.entry_type_call ?_⟩
  rw [Around.under_plain (weight_type_call_type "set" [.ref l] []) rfl]
  have h1 := F.called_set.notType
  have h2 := F.called_set.canCreate
  have hct := F.typeCall_set_1 (.ref l)
  repeat (any_goals (first | assumption | wp_step))
  refine codeAny_mono (code_set_led1 (.ref l) (E := E) (Q₁ := fun v s1 => v = .ref s.heap.objs.size ∧ s1 = { s with heap := s.heap.push (newS w) }) ⟨rfl, rfl⟩) fun r s1 hr => ?_
  match r, hr with
  | .error _, hr => exact hr
  | .ok (.ret v), hr =>
    obtain ⟨rfl, rfl⟩ := hr
    have hS : (s.heap.push (newS w)).get? s.heap.objs.size = some (newS w) := Heap.get?_push_size _ rfl
    have hT : Shared.TypeIs { s with heap := s.heap.push (newS w) } (.ref s.heap.objs.size) "set" := ⟨_, hS, rfl⟩
    have hli := F.called_set.init.lookup
    have hbi := F.called_set.init.bind (.ref s.heap.objs.size)
    repeat (any_goals (first | assumption | wp_step))
    refine codeAny_mono (codeAny_call_builtin (R := wants (fun r s2 => r = .none ∧ ∃ h' tk Fm n, s2 = { s with heap := h', toks := tk } ∧ SetR w h' s.heap.objs.size Fm n ∧ n ≤ ns.length ∧ (∀ k, Fm k = true ↔ k ∈ ns) ∧ ∀ c o, s.heap.get? c = some o → h'.get? c = some o) E) F.called_set.init.plain F.entry_set_init (check_set_init_1 hT ?_)) fun r2 s2 hr2 => ?_
    · obtain ⟨ol, hol, hcl, nl, hdl⟩ := hl
      obtain ⟨ocls, odict, odata, oslots⟩ := ol
      simp only at hcl hdl
      subst hcl hdl
      have hol' : (s.heap.push (newS w)).get? l = some { cls := .type "list", dict := odict, data := .seq vs nl, slots := oslots } := Heap.get?_push_of_some _ hol
      have hsls := F.sub_list_set
      have hslf := F.sub_list_frozenset
      have hne : (Value.type "list" == Value.type "dict") = false := by decide
      have isl : (s.heap.push (newS w)).IsList l vs := ⟨_, hol', rfl, nl, rfl⟩
      unfold Builtin.«set.__init__» noKeywords Builtin.Frozenset.updateFrom
      generalize hPI : pyIter = PI
      wp_walk
      subst hPI
      refine wpAny_pyIter_list isl ?_
      refine wpAny_bind (wpAny_runValue ?_)
      have lS : l < s.heap.objs.size := Heap.lt_size hol
      have sz1 : (s.heap.push (newS w)).objs.size = s.heap.objs.size + 1 := Heap.size_push ..
      have cold3 : A.in1.in1.in1.handled = none := by simp [cold]
      have none_of : ∀ c, s.heap.objs.size ≤ c → s.heap.get? c = none := fun c hc => by
        cases e : s.heap.get? c with
        | none => rfl
        | some o => exact absurd (Heap.lt_size e) (Nat.not_lt.mpr hc)
      have V := (Walks.list (prog := P) (w := w) cold3 (s.heap.push (newS w)).objs.size l (by rw [sz1]; exact Nat.ne_of_lt (Nat.lt_succ_of_lt lS)) vs).toS
      rw [vsz] at V
      have hget : ((s.heap.push (newS w)).push { cls := .type "list_iterator", data := .fields #[.ref l, .int 0 0] }).get? s.heap.objs.size = some (newS w) := Heap.get?_push_of_some _ hS
      refine fillI (s := { s with heap := (s.heap.push (newS w)).push { cls := .type "list_iterator", data := .fields #[.ref l, .int 0 0] } }) (ns := ns) (h0 := s.heap) V (S := s.heap.objs.size) ?_ few (fun i v hv' => ?_) (none_of _ (Nat.le_refl _)) (fun c hc => none_of c ?_) (fun s' Fm n z zl zm kp g1 g2 g3 => ?_)
        ns.length 0 _ (by omega) ⟨⟨_, Heap.get?_push_size _ rfl, rfl, rfl⟩, isl.push _⟩ (fun c o e => Heap.get?_push_of_some _ (Heap.get?_push_of_some _ e)) ⟨V.grefl _, rfl, rfl⟩ ⟨_, _, (setR_fresh w).at fun o e => Heap.get?_push_of_some _ e, Nat.le_refl _, fun k => by simp⟩
      · rw [sz1]
        simp only [List.mem_cons, List.not_mem_nil, or_false, not_or]
        exact ⟨Nat.ne_of_lt (Nat.lt_succ_self _), Nat.ne_of_gt lS⟩
      · have e : vs.toList[i]? = some v := by rw [Array.getElem?_toList]; exact hv'
        exact intsAre_get hv e
      · rw [List.mem_singleton.mp hc, sz1]
        exact Nat.le_succ _
      · obtain ⟨h', g', d', tk', os'⟩ := s'
        have e1 : g' = s.gens := by
          rcases g1 with g1 | g1
          · exact g1
          · exact g1
        have e2 : d' = s.drawn := g2
        have e3 : os' = s.os := g3
        subst e1 e2 e3
        show wpAny _ _ _ _ _ _
        refine wpAny_pure ?_
        show wpAny _ _ (ret Value.none) _ _ _
        exact wpAny_pure ⟨rfl, h', tk', Fm, n, rfl, z, zl, zm, kp⟩
    · match r2, hr2 with
      | .error _, hr2 => exact hr2
      | .ok (.ret _), hr2 =>
        obtain ⟨rfl, h', tk, Fm, n, rfl, z, zl, zm, zk⟩ := hr2
        repeat (any_goals (first | assumption | wp_step))
        exact q h' tk Fm n z zl zm zk
      | .ok (.brk), hr2 => exact hr2.elim
      | .ok (.cont), hr2 => exact hr2.elim
      | .ok (.next), hr2 => exact hr2.elim
  | .ok (.brk), hr => exact hr.elim
  | .ok (.cont), hr => exact hr.elim
  | .ok (.next), hr => exact hr.elim
theorem sorted_setI {S : Int → Bool} {n : Nat} {Q : Value → Shared → Prop} (R : SetR w s.heap a S n) (hh : A.handled = none) (h64 : n ≤ 4000)
    (hQ : ∀ s' p (out : Array Value) (c : Nat) (ns : List Int), (∀ b o, s.heap.get? b = some o → s'.heap.get? b = some o) → s'.gens = s.gens → s'.os = s.os → s.heap.objs.size ≤ p →
      s'.heap.get? p = some (seqObj "list" out c) → IntsAre out.toList ns → ns.Pairwise (· < ·) → (∀ k, k ∈ ns ↔ S k = true) → ns.length = n → Q (.ref p) s') :
    wpAny (model P w) A (call (.builtin "sorted") [.ref a]) Q E s := by
  obtain ⟨o, es, ep, t, ho, hex, hd, g, nd, hm, hb, hf, hn, hr, hl⟩ := R
  refine Calls.call_function_entry kind_sorted plain_sorted entry_sorted (args_sorted1 _) ?_
  unfold Builtin.«sorted»
  refine wpAny_bind (m := checkCount "sorted" 1 1 _) (wpAny_pure ?_)
  refine wpAny_bind (collect_set (A := A.in1) hh ⟨o, ho, hex.1, hd⟩ hf hb hr hl fun s1 vs k1 hz g1 o1 pm => ?_)
  have hvl : vs.length = n := by rw [pm.length_eq, List.length_map, Array.length_toList]; exact hn
  have hI : IntsAre vs (vs.map Builtin.Re.reRawOf) := ints_of vs fun v hv => by
    obtain ⟨e, he, q⟩ := List.mem_map.mp (pm.mem_iff.mp hv)
    obtain ⟨k, tk, h1, _⟩ := g e he
    exact ⟨k, tk, by rw [← q]; exact h1⟩
  have pk : (vs.map Builtin.Re.reRawOf).Perm (es.toList.map keyOf) := by
    have q := pm.map Builtin.Re.reRawOf
    rw [List.map_map] at q
    exact q
  have hfit : vs.length ≤ sizeLine := by rw [hvl, sizeLine_eq]; omega
  refine wpAny_bind (wpAny_newList ?_ hfit)
  have hoL : (s1.heap.push (seqObj "list" vs.toArray 0)).get? s1.heap.objs.size = some (seqObj "list" vs.toArray 0) := Heap.get?_push_size _ rfl
  refine wpAny_bind (wpAny_holding (wpAny_call_entry slot_list_sort ⟨_, hoL, rfl⟩ entry_list_sort (SrtO.list_sort_ord (s := { s1 with heap := s1.heap.push (seqObj "list" vs.toArray 0) }) SrtO.swo_int hoL hfit (fun h2 => SrtO.ints_sortable hI h2) fun out h1 h2 => ⟨_, rfl, ?_⟩) (args_list_sort _)))
  obtain ⟨a1, a2, a3⟩ := SrtO.ints_out hI h1 h2
  obtain ⟨c, hc⟩ := sortedHeap_at (vs := vs) (out := out.toArray) hoL
  obtain ⟨ns', hns⟩ : ∃ ns', ns' = out.map SrtO.iv := ⟨_, rfl⟩
  rw [← hns] at a1 a2 a3
  have pn : ns'.Perm (es.toList.map keyOf) := a2.trans pk
  refine wpAny_pure ⟨_, rfl, hQ _ s1.heap.objs.size out.toArray c ns' (fun b u e => ?_) g1 o1 hz hc (by simpa using a1) (lt_of_le_nodup ns' a3 (pn.nodup_iff.mpr nd)) (fun k => by rw [pn.mem_iff, ← hm k]) ?_⟩
  · have q := k1 b u e
    have hlt := Heap.lt_size q
    show (sortedHeap (s1.heap.push (seqObj "list" vs.toArray 0)) s1.heap.objs.size vs out.toArray).get? b = some u
    rw [sortedHeap_old (Nat.ne_of_lt hlt) (by rw [size_push']; exact Nat.lt_succ_of_lt hlt)]
    exact Heap.get?_push_of_some _ q
  · rw [pn.length_eq, List.length_map, Array.length_toList]; exact hn
end
section
variable {X : Cx} {C : CallSem} {G : Nat → Option D} {W : WX} {e : Expr} {A : Xp}
theorem de_ssrt {p p2 q pos : Pos} (cx : Ctx true X) (hg : Gl X "sorted") (hg2 : Gl X "set") (he : PE X e (tD X C G W A)) (na : starEach [e] X.env = (false, eval e X.env) :: starEach [] X.env := by rfl) :
    PE X (.Call (.Name "sorted" p) [.Call (.Name "set" p2) [e] [] q] [] pos) (tD X C G W (.prm ssrtF (.cons A .nil))) := by
  refine ⟨fun pins s σ H Q I ⟨m, ρ, S, ra, re, po⟩ => ?_⟩
  rw [prm1] at po
  refine Call_ (ld_blt I hg (cx.nob "sorted" (by decide +kernel)) PyProof.Rows.boot_sorted ?_)
  refine PyProof.Rows.callWith_builtin1 (PyProof.Rows.args_cons ?_ rfl) rfl rfl
  refine Call_ (ld_blt I hg2 (cx.nob "set" (by decide +kernel)) PyProof.Rows.boot_set ?_)
  refine PyProof.Rows.callWith_type1 (PyProof.Rows.args_cons (thn (he.run pins s σ H _ I ⟨m, ρ, S, ra, re, Post.bind po⟩) fun u s1 ⟨x, H1, I1, rx, m1, d, S1, l1, ra1, r1, p1⟩ => PyProof.Rows.args_nil ?_) na) na rfl
  replace p1 : Post X.kw X.mg (fun c d H' => W c d σ H') (Rp X.kw X.mg) m1 H1 (match (lstD S1 d).bind intsOf with
    | some ns => if ns.length < 4000 then mk (.lst ((usort ns).map D.int)) S1 else .bad
    | none => .bad) Q := p1
  cases q : (lstD S1 d).bind intsOf with
  | none => rw [q] at p1; exact p1.elim
  | some ns =>
    rw [q] at p1
    replace p1 : Post X.kw X.mg (fun c d H' => W c d σ H') (Rp X.kw X.mg) m1 H1 (if ns.length < 4000 then mk (.lst ((usort ns).map D.int)) S1 else .bad) Q := p1
    by_cases hz : ns.length < 4000
    · rw [if_pos hz] at p1
      obtain ⟨a, rfl, g⟩ := ints_at ra1 r1 q
      cases rx
      obtain ⟨its, rv, pl, _⟩ := I1.list g
      refine set_ofI (I1.ok.hd (cx.calm rfl)) pl.isList (by simpa using rv.ints) hz fun h' tk F n z zn zm hk2 => ?_
      refine PyProof.Rows.args_nil ?_
      have I2 : Inv X pins σ H1 { s1 with heap := h', toks := tk } := I1.kept fun b o e => hk2 b o e
      refine sorted_setI (s := { s1 with heap := h', toks := tk }) z (I1.ok.hd (cx.calm rfl)) (by omega) fun s' p out c ks k g o hp hg hi hs hm hl => ?_
      have ek : ks = usort ns := asc_same hs usort_asc fun x => by rw [hm, zm, usort_mem]
      subst ek
      have hlen : ((usort ns).map V.int).length ≤ sizeLine := by
        rw [List.length_map]
        have := usort_le (l := ns)
        unfold sizeLine
        omega
      have hn : H1 p = none := I2.hok.fresh hp
      obtain ⟨s2, hs2⟩ : ∃ s2 : Shared, s2 = { s1 with heap := h', toks := tk } := ⟨_, rfl⟩
      rw [← hs2] at I2 k g o hp
      have J : Inv X pins σ (upd H1 p (.lst ((usort ns).map V.int))) { s2 with heap := s'.heap, gens := s'.gens, drawn := s'.drawn, toks := s'.toks } :=
        I2.call (ch := []) (Un.laid k hp hn) (I2.hok.laid k hp ⟨hlen, out.toList, c, vals_of_ints hi, hg⟩) (by rw [g]; exact I2.bare) (fun _ z => nomatch z)
      have e : s' = { s2 with heap := s'.heap, gens := s'.gens, drawn := s'.drawn, toks := s'.toks } := by
        cases s'
        cases s2
        cases o
        rfl
      rw [e]
      exact ⟨.ref p, _, J, rfl, post_mk ra1 (rps_ints _) p1 p hn⟩
    · rw [if_neg hz] at p1
      exact p1.elim
end
end CC
namespace CC
open PySem PySem.Spec PyProof.Rows L2
end CC
namespace CC
open PySem PySem.Spec PyProof.Rows L2
abbrev Eo : Nat → List D → Sto → Prop := fun _ _ _ => False
def WR {α : Type} (r : R α) (Q : α → Sto → Prop) (E : Nat → List D → Sto → Prop) : Prop := match r with
  | .ok a S => Q a S
  | .exc c p S => E c p S
  | .bad => False
structure Po where
  nx : Env → Sto → Prop
  rt : D → Sto → Prop
  bk : Env → Sto → Prop
  ct : Env → Sto → Prop
  ex : Nat → List D → Env → Sto → Prop
def Ws (r : Rs) (p : Po) : Prop := match r with
  | .nx ρ S => p.nx ρ S
  | .rt d S => p.rt d S
  | .bk ρ S => p.bk ρ S
  | .ct ρ S => p.ct ρ S
  | .exc c q ρ S => p.ex c q ρ S
  | .bad => False
def optP {α : Type} (o : Option α) (f : α → Prop) : Prop := match o with
  | some a => f a
  | none => False
@[simp] theorem optP_some {α : Type} (a : α) (f : α → Prop) : optP (some a) f = f a := rfl
@[simp] theorem optP_none {α : Type} (f : α → Prop) : optP none f = False := rfl
@[simp ↓] theorem optP_match {α : Type} {o : Option α} {f : α → Prop} : optP o f = (match o with | some a => f a | none => False) := rfl
@[simp] theorem optP_map {α β : Type} (o : Option α) (g : α → β) (f : β → Prop) : optP (o.map g) f = optP o (fun a => f (g a)) := by cases o <;> rfl
theorem WR.mono {α : Type} {r : R α} {Q Q' : α → Sto → Prop} {E E' : Nat → List D → Sto → Prop} (h : WR r Q E) (i : ∀ a S, Q a S → Q' a S) (j : ∀ c p S, E c p S → E' c p S) : WR r Q' E' := by
  cases r with
  | ok a S => exact i a S h
  | exc c p S => exact j c p S h
  | bad => exact h
theorem Ws.mono {r : Rs} {p q : Po} (h : Ws r p) (h1 : ∀ ρ S, p.nx ρ S → q.nx ρ S) (h2 : ∀ d S, p.rt d S → q.rt d S) (h3 : ∀ ρ S, p.bk ρ S → q.bk ρ S) (h4 : ∀ ρ S, p.ct ρ S → q.ct ρ S) (h5 : ∀ c l ρ S, p.ex c l ρ S → q.ex c l ρ S) : Ws r q := by
  cases r with
  | nx _ _ => exact h1 _ _ h
  | rt _ _ => exact h2 _ _ h
  | bk _ _ => exact h3 _ _ h
  | ct _ _ => exact h4 _ _ h
  | exc _ _ _ _ => exact h5 _ _ _ _ h
  | bad => exact h
theorem wp_trim {S : Sto} {r : R D} {Q : D → Sto → Prop} {E : Nat → List D → Sto → Prop} : WR (trim S r) Q E = WR r (fun d S' => Q d (cutS S (d.lt S.length) S')) (fun c p S' => E c p (cutS S (ltL S.length p) S')) := by cases r <;> rfl
theorem wp_bind {α β : Type} {r : R α} {f : α → Sto → R β} {Q : β → Sto → Prop} {E : Nat → List D → Sto → Prop} : WR (r.bind f) Q E = WR r (fun a S => WR (f a S) Q E) E := by cases r <;> rfl
section
variable {C : CallSem} {G : Nat → Option D} {ρ : Env} {S : Sto} {Q : D → Sto → Prop} {E : Nat → List D → Sto → Prop} {a b c : Xp}
@[simp ↓] theorem w_ok {α : Type} {x : α} {Q : α → Sto → Prop} : WR (.ok x S) Q E = Q x S := rfl
@[simp ↓] theorem w_exc {α : Type} {n : Nat} {p : List D} {Q : α → Sto → Prop} : WR (.exc n p S : R α) Q E = E n p S := rfl
@[simp ↓] theorem w_bad {α : Type} {Q : α → Sto → Prop} : WR (.bad : R α) Q E = False := rfl
@[simp ↓] theorem w_opt {α : Type} {o : Option α} {Q : α → Sto → Prop} : WR (R.opt o S) Q E = optP o (fun x => Q x S) := by cases o <;> rfl
@[simp ↓] theorem w_mk {so : SO} : WR (mk so S) Q E = Q (.loc S.length) (S ++ [so]) := rfl
@[simp ↓] theorem w_var {i : Nat} : WR (ev C G (.var i) ρ S) Q E = optP (ρ[i]?.bind id) (fun x => Q x S) := by show WR (R.opt _ S) Q E = _; exact w_opt
@[simp ↓] theorem w_glo {i : Nat} : WR (ev C G (.glo i) ρ S) Q E = optP (G i) (fun x => Q x S) := by show WR (R.opt _ S) Q E = _; exact w_opt
@[simp ↓] theorem w_non : WR (ev C G .non ρ S) Q E = Q .non S := rfl
@[simp ↓] theorem w_bl {k : Bool} : WR (ev C G (.bl k) ρ S) Q E = Q (.bl k) S := rfl
@[simp ↓] theorem w_int {i : Int} : WR (ev C G (.int i) ρ S) Q E = Q (.int i) S := rfl
@[simp ↓] theorem w_str {x : Str} : WR (ev C G (.str x) ρ S) Q E = Q (.str x) S := rfl
@[simp ↓] theorem w_tyc {t : String} : WR (ev C G (.tyc t) ρ S) Q E = Q (.ty t) S := rfl
@[simp ↓] theorem w_bin {op : Operator} : WR (ev C G (.bin op a b) ρ S) Q E = WR (ev C G a ρ S) (fun x S1 => WR (ev C G b ρ S1) (fun y S2 => WR (binD op x y S2) Q E) E) E := by
  show WR (R.bind _ fun x S1 => R.bind _ _) Q E = _
  simp only [wp_bind]
def gdP (t : List (Str × D)) (x : D) (f : D → Prop) : Prop := match x with
  | .str z => optP (t.lookup z) f
  | _ => False
@[simp] theorem gdP_str {t : List (Str × D)} {z : Str} {f : D → Prop} : gdP t (.str z) f = optP (t.lookup z) f := rfl
def asIP (x : D) (f : Int → Prop) : Prop := match x with
  | .int i => f i
  | _ => False
@[simp] theorem asIP_int {i : Int} {f : Int → Prop} : asIP (.int i) f = f i := rfl
@[simp ↓] theorem w_asI {r : R D} {Q : Int → Sto → Prop} : WR (asI r) Q E = WR r (fun x S => asIP x fun i => Q i S) E := by
  cases r with
  | ok x S => cases x <;> rfl
  | _ => rfl
@[simp ↓] theorem w_asT {r : R D} {Q : Bool → Sto → Prop} : WR (asT r) Q E = WR r (fun x S => optP (truth x S) fun t => Q t S) E := by
  cases r with
  | ok x S => exact w_opt
  | _ => rfl
@[simp ↓] theorem w_neg : WR (ev C G (.neg a) ρ S) Q E = WR (ev C G a ρ S) (fun x S1 => asIP x fun i => Q (.int (-i)) S1) E := by
  show WR (R.bind (asI _) _) Q E = _
  rw [wp_bind, w_asI]
  rfl
@[simp ↓] theorem w_nt : WR (ev C G (.nt a) ρ S) Q E = WR (ev C G a ρ S) (fun x S1 => optP (truth x S1) fun t => Q (.bl (!t)) S1) E := by
  show WR (R.bind (asT _) _) Q E = _
  rw [wp_bind, w_asT]
  rfl
def selO (o : Option Bool) (p q : Prop) : Prop := match o with
  | some true => p
  | some false => q
  | none => False
@[simp ↓] theorem selO_match {o : Option Bool} {p q : Prop} : selO o p q = (match o with | some t => (if t = true then p else q) | none => False) := by cases o with
  | none => rfl
  | some k => cases k <;> rfl
@[simp] theorem selO_some {k : Bool} {p q : Prop} : selO (some k) p q = if k = true then p else q := by cases k <;> rfl
@[simp] theorem selO_none {p q : Prop} : selO none p q = False := rfl
@[simp ↓] theorem w_and : WR (ev C G (.and a b) ρ S) Q E = WR (ev C G a ρ S) (fun x S1 => selO (truth x S1) (WR (ev C G b ρ S1) Q E) (Q x S1)) E := by
  show WR (R.bind _ fun x S1 => _) Q E = _
  rw [wp_bind]
  congr 1
  funext x S1
  cases h : truth x S1 with
  | none => rfl
  | some t => cases t <;> rfl
@[simp ↓] theorem w_or : WR (ev C G (.or a b) ρ S) Q E = WR (ev C G a ρ S) (fun x S1 => selO (truth x S1) (Q x S1) (WR (ev C G b ρ S1) Q E)) E := by
  show WR (R.bind _ fun x S1 => _) Q E = _
  rw [wp_bind]
  congr 1
  funext x S1
  cases h : truth x S1 with
  | none => rfl
  | some t => cases t <;> rfl
@[simp ↓] theorem w_cmp {op : CmpOp} : WR (ev C G (.cmp op a b) ρ S) Q E = WR (ev C G a ρ S) (fun x S1 => WR (ev C G b ρ S1) (fun y S2 => optP (cmpD op x y S2) fun t => Q (.bl t) S2) E) E := by
  show WR (R.bind _ fun x S1 => R.bind _ _) Q E = _
  simp only [wp_bind, w_opt, optP_map]
@[simp ↓] theorem w_cmp2 {op op' : CmpOp} : WR (ev C G (.cmp2 op op' a b c) ρ S) Q E = WR (ev C G a ρ S) (fun x S1 => WR (ev C G b ρ S1) (fun y S2 => selO (cmpD op x y S2) (WR (ev C G c ρ S2) (fun z S3 => optP (cmpD op' y z S3) fun t => Q (.bl t) S3) E) (Q (.bl false) S2)) E) E := by
  show WR (R.bind _ fun x S1 => R.bind _ _) Q E = _
  simp only [wp_bind]
  congr 1
  funext x S1
  congr 1
  funext y S2
  cases h : cmpD op x y S2 with
  | none => rfl
  | some t =>
    cases t with
    | false => rfl
    | true =>
      show WR (R.bind _ _) Q E = _
      simp only [wp_bind, w_opt, optP_map]
      rfl
@[simp ↓] theorem w_ife : WR (ev C G (.ife c a b) ρ S) Q E = WR (ev C G c ρ S) (fun x S1 => selO (truth x S1) (WR (ev C G a ρ S1) Q E) (WR (ev C G b ρ S1) Q E)) E := by
  show WR (R.bind (asT _) _) Q E = _
  rw [wp_bind, w_asT]
  congr 1
  funext x S1
  cases truth x S1 with
  | none => rfl
  | some t => cases t <;> rfl
@[simp ↓] theorem w_call {f : Nat} {es : Xp} : WR (ev C G (.call f es) ρ S) Q E = WR (evs C G es ρ S) (fun xs S1 => WR (C f xs S1) Q E) E := by
  show WR (R.bind _ _) Q E = _
  rw [wp_bind]
@[simp ↓] theorem w_callv {t : List (Str × Nat)} {es : Xp} : WR (ev C G (.callv t a es) ρ S) Q E = WR (ev C G a ρ S) (fun g S0 => optP (fnIx t g) fun i => WR (evs C G es ρ S0) (fun xs S1 => WR (C i xs S1) Q E) E) E := by
  show WR (R.bind _ fun g S0 => _) Q E = _
  rw [wp_bind]
  congr 1
  funext g S0
  cases fnIx t g with
  | none => rfl
  | some i => show WR (R.bind _ _) Q E = _; rw [wp_bind]; rfl
@[simp] theorem fnIx_fn {t : List (Str × Nat)} {z : Str} : fnIx t (.fn z) = t.lookup z := rfl
@[simp ↓] theorem w_dd {es : Xp} : WR (ev C G (.dd es) ρ S) Q E = WR (evs C G es ρ (S ++ [.dic []])) (fun xs S1 => WR (ddD S.length xs S1) Q E) E := by
  show WR (R.bind _ _) Q E = _
  rw [wp_bind]
def ddP (xs : List D) (f : List (Key × D) → Prop) : Prop := xs.length ≤ 30 ∧ optP (ddL xs []) f
@[simp ↓] theorem w_ddD {xs : List D} : WR (ddD S.length xs (S ++ [.dic []])) Q E = ddP xs fun kvs => Q (.loc S.length) (S ++ [.dic kvs]) := by
  unfold ddD ddP
  have e : (S ++ [SO.dic []])[S.length]? = some (.dic []) := by simp
  rw [e]
  cases h : ddL xs [] with
  | none => simp [WR, optP]
  | some kvs =>
    simp only [optP]
    by_cases c : xs.length ≤ 30
    · rw [if_pos c]
      have e2 : (S ++ [SO.dic []]).set S.length (.dic kvs) = S ++ [.dic kvs] := by
        rw [List.set_append_right _ _ (Nat.le_refl _)]
        simp
      rw [e2]
      simp [WR, c]
    · rw [if_neg c]
      simp [WR, c]
@[simp ↓] theorem w_ddn {es : Xp} : WR (ev C G (.ddn es) ρ S) Q E = WR (evs C G es ρ (S ++ [.dn []])) (fun xs S1 => WR (ddnD S.length xs S1) Q E) E := by
  show WR (R.bind _ _) Q E = _
  rw [wp_bind]
def ddnP (xs : List D) (f : List (NestedKey × D) → Prop) : Prop := xs.length ≤ 30 ∧ optP (ddnL xs []) f
@[simp ↓] theorem w_ddnD {xs : List D} : WR (ddnD S.length xs (S ++ [.dn []])) Q E = ddnP xs fun kvs => Q (.loc S.length) (S ++ [.dn kvs]) := by
  unfold ddnD ddnP
  have e : (S ++ [SO.dn []])[S.length]? = some (.dn []) := by simp
  rw [e]
  cases h : ddnL xs [] with
  | none => simp [WR, optP]
  | some kvs =>
    simp only [optP]
    by_cases c : xs.length ≤ 30
    · rw [if_pos c]
      have e2 : (S ++ [SO.dn []]).set S.length (.dn kvs) = S ++ [.dn kvs] := by
        rw [List.set_append_right _ _ (Nat.le_refl _)]
        simp
      rw [e2]
      simp [WR, c]
    · rw [if_neg c]
      simp [WR, c]
@[simp ↓] theorem w_xfld {f : Str} : WR (ev C G (.xfld f a) ρ S) Q E = WR (ev C G a ρ S) (fun x S1 => optP (fldD f x) fun y => Q y S1) E := by
  show WR (R.bind _ fun x S1 => _) Q E = _
  simp only [wp_bind, w_opt]
@[simp] theorem fldD_dir {d : D} : fldD "direction" (.exn 9 [d]) = some d := rfl
@[simp] theorem fldD_lim {d : D} : fldD "limit" (.exn 10 [d]) = some d := rfl
@[simp ↓] theorem w_mkx {c : Nat} {es : Xp} : WR (ev C G (.mkx c es) ρ S) Q E = WR (evs C G es ρ S) (fun xs S1 => Q (.exn c xs) S1) E := by
  show WR (R.bind _ fun x S1 => _) Q E = _
  rw [wp_bind]
  rfl
@[simp] theorem permL_nil {α : Type} {vs : List α} : permL vs [] = some [] := rfl
@[simp] theorem permL_cons {α : Type} {vs : List α} {q : Nat} {qs : List Nat} : permL vs (q :: qs) = (vs[q]?).bind fun v => (permL vs qs).map (v :: ·) := rfl
@[simp ↓] theorem w_callk {f : Nat} {es ks : Xp} {perm : List Nat} : WR (ev C G (.callk f es ks perm) ρ S) Q E = WR (evs C G es ρ S) (fun xs S1 => WR (evs C G ks ρ S1) (fun ys S2 => optP (permL (xs ++ ys) perm) fun zs => WR (C f zs S2) Q E) E) E := by
  show WR (R.bind _ fun xs S1 => R.bind _ _) Q E = _
  simp only [wp_bind]
  congr 1
  funext x S1
  congr 1
  funext y S2
  cases permL (x ++ y) perm <;> rfl
@[simp ↓] theorem w_bi {f : Bi} {es : Xp} : WR (ev C G (.bi f es) ρ S) Q E = WR (evs C G es ρ S) (fun xs S1 => WR (biD f xs S1) Q E) E := by
  show WR (R.bind _ _) Q E = _
  rw [wp_bind]
@[simp ↓] theorem w_callvk {t : List (Str × Nat)} {es ks : Xp} {perm : List Nat} : WR (ev C G (.callvk t a es ks perm) ρ S) Q E = WR (ev C G a ρ S) (fun g S0 => optP (fnIx t g) fun i => WR (evs C G es ρ S0) (fun xs S1 => WR (evs C G ks ρ S1) (fun ys S2 => optP (permL (xs ++ ys) perm) fun zs => WR (C i zs S2) Q E) E) E) E := by
  show WR (R.bind _ fun g S0 => _) Q E = _
  rw [wp_bind]
  congr 1
  funext g S0
  cases fnIx t g with
  | none => rfl
  | some i =>
    show WR (R.bind _ fun xs S1 => R.bind _ _) Q E = _
    simp only [wp_bind]
    show _ = WR _ _ _
    congr 1
    funext x S1
    congr 1
    funext y S2
    cases permL (x ++ y) perm <;> rfl
@[simp ↓] theorem w_mt {m : Mt} {o es : Xp} : WR (ev C G (.mt m o es) ρ S) Q E = WR (ev C G o ρ S) (fun x S1 => isLst x S1 = true ∧ WR (evs C G es ρ S1) (fun xs S2 => WR (mtD m x xs S2) Q E) E) E := by
  show WR (R.bind _ fun x S1 => _) Q E = _
  rw [wp_bind]
  congr 1
  funext x S1
  cases h : isLst x S1 with
  | false => simp
  | true => simp [wp_bind]
@[simp ↓] theorem w_ix : WR (ev C G (.ix a b) ρ S) Q E = WR (ev C G a ρ S) (fun x S1 => WR (ev C G b ρ S1) (fun y S2 => optP (ixD x y S2) fun z => Q z S2) E) E := by
  show WR (R.bind _ fun x S1 => R.bind _ _) Q E = _
  simp only [wp_bind, w_opt]
@[simp ↓] theorem w_gdx {t : List (Str × D)} : WR (ev C G (.gdx t a) ρ S) Q E = WR (ev C G a ρ S) (fun x S1 => gdP t x fun z => Q z S1) E := by
  show WR (R.bind _ fun x S1 => _) Q E = _
  rw [wp_bind]
  congr 1
  funext x S1
  cases x with
  | str z => exact w_opt
  | _ => rfl
@[simp ↓] theorem w_sl {l h : Xp} : WR (ev C G (.sl a l h) ρ S) Q E = WR (ev C G a ρ S) (fun x S1 => WR (evp C G l ρ S1) (fun y S2 => WR (evp C G h ρ S2) (fun z S3 => WR (slD x y z S3) Q E) E) E) E := by
  show WR (R.bind _ fun x S1 => R.bind _ fun y S2 => R.bind _ _) Q E = _
  simp only [wp_bind]
@[simp ↓] theorem w_frz : WR (ev C G (.frzv a) ρ S) Q E = WR (ev C G a ρ S) (fun x S1 => WR (trim S (frzD x S1)) Q E) (fun c p S1 => E c p (cutS S (ltL S.length p) S1)) := by
  show WR (trim S (R.bind _ _)) Q E = _
  rw [wp_trim, wp_bind]
  simp only [wp_trim]
@[simp ↓] theorem w_rev : WR (ev C G (.rev a) ρ S) Q E = WR (ev C G a ρ S) (fun x S1 => WR (revD x S1) Q E) E := by
  show WR (R.bind _ _) Q E = _
  rw [wp_bind]
@[simp ↓] theorem w_tup {es : Xp} : WR (ev C G (.tup es) ρ S) Q E = WR (evs C G es ρ S) (fun xs S1 => xs.length ≤ 1000 ∧ Q (.tup xs) S1) E := by
  show WR (R.bind _ _) Q E = _
  rw [wp_bind]
  congr 1
  funext x S1
  by_cases h : x.length ≤ 1000
  · simp [h]
  · simp [h]
@[simp ↓] theorem w_lst {es : Xp} : WR (ev C G (.lst es) ρ S) Q E = WR (evs C G es ρ S) (fun xs S1 => xs.length ≤ 1000 ∧ Q (.loc S1.length) (S1 ++ [.lst xs])) E := by
  show WR (R.bind _ _) Q E = _
  rw [wp_bind]
  congr 1
  funext x S1
  by_cases h : x.length ≤ 1000
  · simp [h]
  · simp [h]
@[simp ↓] theorem w_lc {it tg el cd : Xp} {vs : List Nat} : WR (ev C G (.lc it tg el cd vs) ρ S) Q E = WR (evi C G it ρ S) (fun src S1 => WR (lcl src tg (fun ρ1 S2 => asT (ev C G cd ρ1 S2)) (fun ρ1 S2 => ev C G el ρ1 S2) (wipeE ρ vs) (src.size S1 + 1) 0 [] S1) (fun ds S2 => Q (.loc S2.length) (S2 ++ [.lst ds])) E) E := by
  show WR (R.bind _ fun x S1 => R.bind _ _) Q E = _
  simp only [wp_bind, w_mk]
@[simp ↓] theorem w_lc2 {it tg cd it1 tg1 cd1 el : Xp} {vs vs1 : List Nat} : WR (ev C G (.lc2 it tg cd it1 tg1 cd1 el vs vs1) ρ S) Q E = WR (evi C G it ρ S) (fun src S1 => WR (lcl2 src tg (fun ρ1 S2 => asT (ev C G cd ρ1 S2)) (fun ρ1 acc S2 => match evi C G it1 ρ1 S2 with
      | .ok src1 S3 => lcl src1 tg1 (fun ρ2 S4 => asT (ev C G cd1 ρ2 S4)) (fun ρ2 S4 => ev C G el ρ2 S4) (wipeE ρ1 vs1) (src1.size S3 + 1) 0 acc S3
      | _ => .bad) (wipeE ρ vs) (src.size S1 + 1) 0 [] S1) (fun ds S2 => Q (.loc S2.length) (S2 ++ [.lst ds])) E) E := by
  show WR (R.bind _ fun x S1 => R.bind _ _) Q E = _
  simp only [wp_bind, w_mk] <;> rfl
@[simp ↓] theorem w_evs_nil {Q : List D → Sto → Prop} : WR (evs C G .nil ρ S) Q E = Q [] S := rfl
@[simp ↓] theorem w_evs_cons {Q : List D → Sto → Prop} : WR (evs C G (.cons a b) ρ S) Q E = WR (ev C G a ρ S) (fun x S1 => WR (evs C G b ρ S1) (fun xs S2 => Q (x :: xs) S2) E) E := by
  show WR (R.bind _ fun x S1 => R.bind _ _) Q E = _
  simp only [wp_bind, w_ok]
@[simp ↓] theorem w_evp_nil {Q : Option Int → Sto → Prop} : WR (evp C G .nil ρ S) Q E = Q none S := rfl
@[simp ↓] theorem w_evp_cons {Q : Option Int → Sto → Prop} : WR (evp C G (.cons a b) ρ S) Q E = WR (ev C G a ρ S) (fun x S1 => asIP x fun i => Q (some i) S1) E := by
  show WR (R.bind (asI _) _) Q E = _
  rw [wp_bind, w_asI]
  rfl
variable {Q' : Src → Sto → Prop}
@[simp ↓] theorem w_itr : WR (evi C G (.itr a) ρ S) Q' E = WR (ev C G a ρ S) (fun x S1 => optP (srcOf x S1) fun s => Q' s S1) E := by
  show WR (R.bind _ _) Q' E = _
  simp only [wp_bind, w_opt]
theorem if_bad {α : Type} {p : Prop} [Decidable p] {x : R α} {Q : α → Sto → Prop} : WR (if p then x else .bad) Q E = (p ∧ WR x Q E) := by by_cases h : p <;> simp [h]
@[simp ↓] theorem w_rng1 : WR (evi C G (.rng1 a) ρ S) Q' E = WR (ev C G a ρ S) (fun x S1 => asIP x fun i => small62 i = true ∧ Q' (.ds (rangeD 0 i.toNat)) S1) E := by
  show WR (R.bind (asI _) _) Q' E = _
  simp only [wp_bind, w_asI, if_bad, w_ok]
@[simp ↓] theorem w_rng2 : WR (evi C G (.rng2 a b) ρ S) Q' E = WR (ev C G a ρ S) (fun x S1 => asIP x fun i => WR (ev C G b ρ S1) (fun y S2 => asIP y fun j => (small62 i && small62 j) = true ∧ Q' (.ds (rangeD i (j - i).toNat)) S2) E) E := by
  show WR (R.bind (asI _) fun i S1 => R.bind (asI _) _) Q' E = _
  simp only [wp_bind, w_asI, if_bad, w_ok]
def zipP (x y : D) (S : Sto) (Q : Src → Prop) : Prop := match x, y with
  | .loc n, .loc k => (lstAt S n).isSome = true ∧ (lstAt S k).isSome = true ∧ Q (.zip n k)
  | .tup xs, .tup ys => Q (.ds ((xs.zip ys).map fun p => .tup [p.1, p.2]))
  | .fl xs, .fl ys => Q (.ds ((xs.zip ys).map fun p => .tup [p.1, p.2]))
  | .fl xs, .tup ys => Q (.ds ((xs.zip ys).map fun p => .tup [p.1, p.2]))
  | .loc n, .fl ys => (lstAt S n).isSome = true ∧ Q (.zipF n ys)
  | _, _ => False
@[simp] theorem zipP_loc {n k : Nat} {Q : Src → Prop} : zipP (.loc n) (.loc k) S Q = ((lstAt S n).isSome = true ∧ (lstAt S k).isSome = true ∧ Q (.zip n k)) := rfl
@[simp] theorem zipP_tup {xs ys : List D} {Q : Src → Prop} : zipP (.tup xs) (.tup ys) S Q = Q (.ds ((xs.zip ys).map fun p => .tup [p.1, p.2])) := rfl
@[simp] theorem zipP_lf {n : Nat} {ys : List D} {Q : Src → Prop} : zipP (.loc n) (.fl ys) S Q = ((lstAt S n).isSome = true ∧ Q (.zipF n ys)) := rfl
@[simp] theorem zipP_fl {xs ys : List D} {Q : Src → Prop} : zipP (.fl xs) (.fl ys) S Q = Q (.ds ((xs.zip ys).map fun p => .tup [p.1, p.2])) := rfl
@[simp] theorem zipP_ft {xs ys : List D} {Q : Src → Prop} : zipP (.fl xs) (.tup ys) S Q = Q (.ds ((xs.zip ys).map fun p => .tup [p.1, p.2])) := rfl
@[simp ↓] theorem w_zip2 : WR (evi C G (.zip2 a b) ρ S) Q' E = WR (ev C G a ρ S) (fun x S1 => WR (ev C G b ρ S1) (fun y S2 => zipP x y S2 fun s => Q' s S2) E) E := by
  show WR (R.bind _ fun x S1 => R.bind _ _) Q' E = _
  simp only [wp_bind]
  congr 1
  funext x S1
  congr 1
  funext y S2
  cases x with
  | loc n =>
    cases y with
    | loc k =>
      show WR (match lstAt S2 n, lstAt S2 k with
      | some _, some _ => .ok (.zip n k) S2
      | _, _ => .bad) Q' E = _
      rw [zipP_loc]
      cases lstAt S2 n <;> cases lstAt S2 k <;> simp
    | fl ys =>
      show WR (match lstAt S2 n with
      | some _ => .ok (.zipF n ys) S2
      | none => .bad) Q' E = _
      rw [zipP_lf]
      cases lstAt S2 n <;> simp
    | _ => rfl
  | tup xs => cases y <;> rfl
  | fl xs => cases y <;> rfl
  | _ => rfl
def enumP (x : D) (S : Sto) (Q : Src → Prop) : Prop := match x with
  | .loc n => (lstAt S n).isSome = true ∧ Q (.enum n)
  | .fl ds => Q (.ds (enumL 0 ds))
  | _ => False
@[simp] theorem enumP_loc {n : Nat} {Q : Src → Prop} : enumP (.loc n) S Q = ((lstAt S n).isSome = true ∧ Q (.enum n)) := rfl
@[simp] theorem enumP_fl {ds : List D} {Q : Src → Prop} : enumP (.fl ds) S Q = Q (.ds (enumL 0 ds)) := rfl
@[simp ↓] theorem w_enum : WR (evi C G (.enum a) ρ S) Q' E = WR (ev C G a ρ S) (fun x S1 => enumP x S1 fun s => Q' s S1) E := by
  show WR (R.bind _ fun x S1 => _) Q' E = _
  rw [wp_bind]
  congr 1
  funext x S1
  cases x with
  | loc n =>
    show WR (match lstAt S1 n with
      | some _ => .ok (.enum n) S1
      | none => .bad) Q' E = _
    rw [enumP_loc]
    cases lstAt S1 n <;> simp
  | _ => rfl
end
section
variable {S : Sto} {Q : D → Sto → Prop} {E : Nat → List D → Sto → Prop} {i j : Int}
@[simp ↓] theorem b_addI : binD .Add (.int i) (.int j) S = .ok (.int (i + j)) S := rfl
@[simp ↓] theorem b_subI : binD .Sub (.int i) (.int j) S = .ok (.int (i - j)) S := rfl
@[simp ↓] theorem b_mulI : WR (binD .Mult (.int i) (.int j) S) Q E = (mulOk i j = true ∧ Q (.int (i * j)) S) := by show WR (if _ then _ else .bad) Q E = _; rw [if_bad]; rfl
@[simp ↓] theorem b_divI : WR (binD .FloorDiv (.int i) (.int j) S) Q E = (divOk j = true ∧ Q (.int (i / j)) S) := by show WR (if _ then _ else .bad) Q E = _; rw [if_bad]; rfl
@[simp ↓] theorem b_modI : WR (binD .Mod (.int i) (.int j) S) Q E = (0 < j ∧ Q (.int (i % j)) S) := by show WR (if _ then _ else .bad) Q E = _; rw [if_bad]; simp
@[simp ↓] theorem b_powI : WR (binD .Pow (.int i) (.int j) S) Q E = (powOk i j = true ∧ Q (.int (i ^ j.toNat)) S) := by show WR (if _ then _ else .bad) Q E = _; rw [if_bad]; rfl
@[simp ↓] theorem b_addS {x y : Str} : WR (binD .Add (.str x) (.str y) S) Q E = (x.length + y.length ≤ sizeLine ∧ Q (.str (x ++ y)) S) := by show WR (if _ then _ else .bad) Q E = _; rw [if_bad]; rfl
@[simp ↓] theorem b_addT {x y : List D} : WR (binD .Add (.tup x) (.tup y) S) Q E = (x.length + y.length ≤ sizeLine ∧ Q (.tup (x ++ y)) S) := by show WR (if _ then _ else .bad) Q E = _; rw [if_bad]; rfl
def catP (o p : Option (List D)) (f : List D → Prop) : Prop := match o, p with
  | some a, some b => a.length + b.length ≤ sizeLine ∧ f (a ++ b)
  | _, _ => False
@[simp] theorem catP_some {a b : List D} {f : List D → Prop} : catP (some a) (some b) f = (a.length + b.length ≤ sizeLine ∧ f (a ++ b)) := rfl
theorem w_cat {o p : Option (List D)} : WR (catD o p S) Q E = catP o p fun ds => Q (.loc S.length) (S ++ [.lst ds]) := by
  cases o with
  | none => cases p <;> rfl
  | some a =>
    cases p with
    | none => rfl
    | some b => show WR (if _ then _ else .bad) Q E = _; rw [if_bad]; rfl
@[simp ↓] theorem b_catF {a b : List D} : WR (binD .Add (.fl a) (.fl b) S) Q E = (a.length + b.length ≤ sizeLine ∧ Q (.loc S.length) (S ++ [.lst (a ++ b)])) := w_cat (o := some a) (p := some b)
@[simp ↓] theorem b_catL {n : Nat} {b : D} : WR (binD .Add (.loc n) b S) Q E = catP (lstM S (.loc n)) (lstM S b) fun ds => Q (.loc S.length) (S ++ [.lst ds]) := by
  cases b <;> exact w_cat
@[simp ↓] theorem b_catR {n : Nat} {a : List D} : WR (binD .Add (.fl a) (.loc n) S) Q E = catP (some a) (lstM S (.loc n)) fun ds => Q (.loc S.length) (S ++ [.lst ds]) := w_cat (o := some a)
def repP' (o : Option (List D)) (k : Int) (f : List D → Prop) : Prop := match o with
  | some a => (decide (-(2 ^ 63) ≤ k) && decide (k < 2 ^ 63) && decide (a.length * k.toNat ≤ sizeLine)) = true ∧ f (List.replicate k.toNat a).flatten
  | none => False
@[simp] theorem repP'_some {a : List D} {k : Int} {f : List D → Prop} : repP' (some a) k f = ((decide (-(2 ^ 63) ≤ k) && decide (k < 2 ^ 63) && decide (a.length * k.toNat ≤ sizeLine)) = true ∧ f (List.replicate k.toNat a).flatten) := rfl
@[simp ↓] theorem b_repL {n : Nat} {k : Int} : WR (binD .Mult (.loc n) (.int k) S) Q E = repP' (lstW S (.loc n)) k fun ds => Q (.loc S.length) (S ++ [.lst ds]) := by
  show WR (repL (lstW S (.loc n)) k S) Q E = _
  cases lstW S (.loc n) with
  | none => rfl
  | some a => show WR (if _ then _ else .bad) Q E = _; rw [if_bad]; rfl
@[simp] theorem lstM_fl {ds : List D} : lstM S (.fl ds) = some ds := rfl
@[simp] theorem lstD_fl {ds : List D} : lstD S (.fl ds) = some ds := rfl
@[simp] theorem lstD_loc {n : Nat} : lstD S (.loc n) = lstAt S n := rfl
@[simp] theorem dicD_fd {ks : List Key} {ds : List D} : dicD S (.fd ks ds) = some (ks.zip ds) := rfl
@[simp] theorem dicD_loc {n : Nat} : dicD S (.loc n) = dicAt S n := rfl
@[simp] theorem t_fl {ds : List D} : truth (.fl ds) S = some (!ds.isEmpty) := rfl
@[simp] theorem t_bl {k : Bool} : truth (.bl k) S = some k := rfl
@[simp] theorem t_int : truth (.int i) S = some (i != 0) := rfl
@[simp] theorem t_tup {ds : List D} : truth (.tup ds) S = some (!ds.isEmpty) := rfl
@[simp] theorem t_non : truth .non S = some false := rfl
@[simp] theorem c_eqI : cmpD .Eq (.int i) (.int j) S = some (i == j) := rfl
@[simp] theorem c_eqS {x y : Str} : cmpD .Eq (.str x) (.str y) S = some (x == y) := rfl
@[simp] theorem c_neI : cmpD .NotEq (.int i) (.int j) S = some (!(i == j)) := rfl
@[simp] theorem c_neS {x y : Str} : cmpD .NotEq (.str x) (.str y) S = some (!(x == y)) := rfl
@[simp] theorem c_lt : cmpD .Lt (.int i) (.int j) S = some (decide (i < j)) := rfl
@[simp] theorem c_le : cmpD .LtE (.int i) (.int j) S = some (decide (i ≤ j)) := rfl
@[simp] theorem c_gt : cmpD .Gt (.int i) (.int j) S = some (decide (j < i)) := rfl
@[simp] theorem c_ge : cmpD .GtE (.int i) (.int j) S = some (decide (j ≤ i)) := rfl
@[simp] theorem c_isN {x : D} : cmpD .Is x .non S = some (isNon x) := rfl
@[simp] theorem c_notN {x : D} : cmpD .IsNot x .non S = some (!isNon x) := rfl
@[simp] theorem c_inT {x : D} {ds : List D} : cmpD .In x (.tup ds) S = inSeq x ds := rfl
@[simp] theorem c_ninT {x : D} {ds : List D} : cmpD .NotIn x (.tup ds) S = (inSeq x ds).map (!·) := rfl
@[simp] theorem l_fl {ds : List D} : lenD (.fl ds) S = some ds.length := rfl
@[simp] theorem x_fl {ds : List D} : ixD (.fl ds) (.int i) S = atI ds i := rfl
@[simp] theorem x_fd {ks : List Key} {ds : List D} {y : D} : ixD (.fd ks ds) y S = (kD y).bind fun k => valA (ks.zip ds) k := rfl
@[simp] theorem so_fl {ds : List D} : srcOf (.fl ds) S = some (.ds ds) := rfl
@[simp ↓] theorem sl_flW {ds : List D} {l h : Option Int} : slD (.fl ds) l h S = mk (.lst (cut ds l h)) S := rfl
@[simp ↓] theorem rev_flW {ds : List D} : revD (.fl ds) S = mk (.lst ds.reverse) S := rfl
@[simp ↓] theorem rev_tupW {ds : List D} : revD (.tup ds) S = .ok (.tup ds.reverse) S := rfl
@[simp] theorem l_tup {ds : List D} : lenD (.tup ds) S = some ds.length := rfl
@[simp] theorem l_loc {n : Nat} : lenD (.loc n) S = lenL (lstAt S n) (dicAt S n) (dnAt S n) := rfl
@[simp] theorem lenL_some {ds : List D} {o : Option (List (Key × D))} {q : Option (List (NestedKey × D))} : lenL (some ds) o q = some ds.length := rfl
@[simp] theorem lenL_none {kvs : List (Key × D)} {q : Option (List (NestedKey × D))} : lenL none (some kvs) q = some kvs.length := rfl
@[simp] theorem lenL_dn {kvs : List (NestedKey × D)} : lenL none none (some kvs) = some kvs.length := rfl
@[simp] theorem x_tup {ds : List D} : ixD (.tup ds) (.int i) S = atI ds i := rfl
@[simp] theorem x_loc {n : Nat} : ixD (.loc n) (.int i) S = ixL (lstAt S n) (dicAt S n) (dnAt S n) (.int i) := rfl
@[simp] theorem x_locS {n : Nat} {z : Str} : ixD (.loc n) (.str z) S = ixL (lstAt S n) (dicAt S n) (dnAt S n) (.str z) := rfl
@[simp] theorem x_locT {n : Nat} {z : List D} : ixD (.loc n) (.tup z) S = ixL (lstAt S n) (dicAt S n) (dnAt S n) (.tup z) := rfl
@[simp] theorem ixL_some {ds : List D} {o : Option (List (Key × D))} {q : Option (List (NestedKey × D))} : ixL (some ds) o q (.int i) = atI ds i := rfl
@[simp] theorem ixL_none {kvs : List (Key × D)} {q : Option (List (NestedKey × D))} {y : D} : ixL none (some kvs) q y = (kD y).bind fun k => valA kvs k := rfl
@[simp] theorem ixL_dn {kvs : List (NestedKey × D)} {y : D} : ixL none none (some kvs) y = (kT y).bind fun k => valA kvs k := rfl
@[simp] theorem x_fm {ks : List NestedKey} {ds : List D} {y : D} : ixD (.fm ks ds) y S = (kT y).bind fun k => valA (ks.zip ds) k := rfl
@[simp ↓] theorem w_dnn {C : CallSem} {G : Nat → Option D} {ρ : Env} : WR (ev C G .dnn ρ S) Q E = Q (.loc S.length) (S ++ [.dn []]) := rfl
@[simp ↓] theorem w_dnew {C : CallSem} {G : Nat → Option D} {ρ : Env} : WR (ev C G .dnew ρ S) Q E = Q (.loc S.length) (S ++ [.dic []]) := rfl
@[simp ↓] theorem bi_lenW {x : D} : WR (biD .len [x] S) Q E = optP (lenD x S) fun n => Q (.int n) S := by show WR (R.opt _ S) Q E = _; rw [w_opt]; cases lenD x S <;> rfl
@[simp ↓] theorem bi_isxW {c : Nat} {ps : List D} {t : D} : WR (biD .isx [.exn c ps, t] S) Q E = optP (isX c t) fun b => Q (.bl b) S := by show WR (R.opt _ S) Q E = _; rw [w_opt, optP_map]
@[simp] theorem isX_cls {c k : Nat} : isX c (.cls k) = some (subX c k) := rfl
@[simp] theorem isX_val {c : Nat} : isX c (.ty "ValueError") = some true := rfl
@[simp] theorem isX1_cls {c k : Nat} : isX1 c (.cls k) = some (subX c k) := rfl
@[simp] theorem isX_tup {c : Nat} {ts : List D} : isX c (.tup ts) = isXL c ts := rfl
@[simp] theorem isXL_nil {c : Nat} : isXL c [] = some false := rfl
@[simp] theorem isXL_cons {c : Nat} {t : D} {ts : List D} : isXL c (t :: ts) = (isX1 c t).bind fun b => (isXL c ts).map fun e => b || e := rfl
@[simp ↓] theorem bi_strI : WR (biD .str [.int i] S) Q E = (i.natAbs.log2 < 1900 ∧ Q (.str (toString i)) S) := by
  show WR (if decide (i.natAbs.log2 < 1900) then .ok (.str (toString i)) S else .bad) Q E = _
  by_cases h : i.natAbs.log2 < 1900 <;> simp [h, WR]
@[simp ↓] theorem bi_isW {x t : D} : WR (biD .isinst [x, t] S) Q E = optP (isinst x t S) fun b => Q (.bl b) S := by show WR (R.opt _ S) Q E = _; rw [w_opt, optP_map]
@[simp ↓] theorem bi_absW : biD .abs [.int i] S = .ok (.int (if i < 0 then -i else i)) S := rfl
@[simp ↓] theorem bi_maxW : biD .max [.int i, .int j] S = .ok (.int (if j > i then j else i)) S := rfl
@[simp ↓] theorem bi_minW : biD .min [.int i, .int j] S = .ok (.int (if j < i then j else i)) S := rfl
@[simp ↓] theorem bi_intI : biD .int [.int i] S = .ok (.int i) S := rfl
@[simp ↓] theorem bi_intB {k : Bool} : biD .int [.bl k] S = .ok (.int (if k then 1 else 0)) S := rfl
@[simp ↓] theorem bi_sumW {x : D} : WR (biD .sum [x] S) Q E = optP ((lstD S x).bind intsOf) fun ns => Q (.int ns.sum) S := by show WR (R.opt _ S) Q E = _; rw [w_opt, optP_map]
@[simp ↓] theorem bi_sortedW {x : D} : WR (biD .sorted [x] S) Q E = optP ((lstD S x).bind intsOf) fun ns => Q (.loc S.length) (S ++ [.lst ((isort ns).map D.int)]) := by
  show WR (match (lstD S x).bind intsOf with
    | some ns => mk (.lst ((isort ns).map D.int)) S
    | none => .bad) Q E = _
  cases (lstD S x).bind intsOf <;> rfl
@[simp ↓] theorem bi_sortdW {x : D} : WR (biD .sortd [x] S) Q E = optP ((dicD S x).bind keysI) fun ns => Q (.loc S.length) (S ++ [.lst ((isort ns).map D.int)]) := by
  show WR (match (dicD S x).bind keysI with
    | some ns => mk (.lst ((isort ns).map D.int)) S
    | none => .bad) Q E = _
  cases (dicD S x).bind keysI <;> rfl
@[simp ↓] theorem bi_listnW {x : D} : WR (biD .listn [x] S) Q E = optP (dnD S x) fun kvs => Q (.loc S.length) (S ++ [.lst (kvs.map fun kv => nD kv.1)]) := by
  show WR (match dnD S x with
    | some kvs => mk (.lst (kvs.map fun kv => nD kv.1)) S
    | none => .bad) Q E = _
  cases dnD S x <;> rfl
@[simp ↓] theorem bi_allW {x : D} : WR (biD .all [x] S) Q E = optP ((lstD S x).bind blsOf) fun ns => Q (.bl (ns.all id)) S := by show WR (R.opt _ S) Q E = _; rw [w_opt, optP_map]
@[simp ↓] theorem bi_anyW {x : D} : WR (biD .any [x] S) Q E = optP ((lstD S x).bind blsOf) fun ns => Q (.bl (ns.any id)) S := by show WR (R.opt _ S) Q E = _; rw [w_opt, optP_map]
@[simp ↓] theorem bi_reprW {x : D} : WR (biD .repr [x] S) Q E = optP (repD x S) fun z => Q z S := by show WR (R.opt _ S) Q E = _; rw [w_opt]
@[simp ↓] theorem bi_tupW {n : Nat} : WR (biD .tuple [.loc n] S) Q E = optP (lstAt S n) fun ds => Q (.tup ds) S := by
  show WR (match lstAt S n with
    | some ds => .ok (.tup ds) S
    | none => .bad) Q E = _
  cases lstAt S n <;> rfl
@[simp ↓] theorem bi_tupF {ds : List D} : biD .tuple [.fl ds] S = .ok (.tup ds) S := rfl
@[simp ↓] theorem bi_tupT {ds : List D} : biD .tuple [.tup ds] S = .ok (.tup ds) S := rfl
@[simp ↓] theorem bi_lstW {n : Nat} : WR (biD .list [.loc n] S) Q E = optP (lstAt S n) fun ds => Q (.loc S.length) (S ++ [.lst ds]) := by
  show WR (match lstAt S n with
    | some ds => mk (.lst ds) S
    | none => .bad) Q E = _
  cases lstAt S n <;> rfl
@[simp ↓] theorem bi_lstF {ds : List D} : WR (biD .list [.fl ds] S) Q E = Q (.loc S.length) (S ++ [.lst ds]) := rfl
@[simp ↓] theorem bi_lstT {ds : List D} : WR (biD .list [.tup ds] S) Q E = Q (.loc S.length) (S ++ [.lst ds]) := rfl
def mostP (o : Option (List Int)) (f : Int → List Int → Prop) : Prop := match o with
  | some (x :: r) => f x r
  | _ => False
@[simp] theorem mostP_some {x : Int} {r : List Int} {f : Int → List Int → Prop} : mostP (some (x :: r)) f = f x r := rfl
@[simp ↓] theorem bi_maxF {ds : List D} : WR (biD .max [.fl ds] S) Q E = mostP (intsOf ds) fun x r => Q (.int (mostI x r)) S := by
  show WR (match intsOf ds with
    | some (x :: r) => .ok (.int (mostI x r)) S
    | _ => .bad) Q E = _
  cases intsOf ds with
  | none => rfl
  | some l => cases l <;> rfl
@[simp ↓] theorem bi_minF {ds : List D} : WR (biD .min [.fl ds] S) Q E = mostP (intsOf ds) fun x r => Q (.int (leastI x r)) S := by
  show WR (match intsOf ds with
    | some (x :: r) => .ok (.int (leastI x r)) S
    | _ => .bad) Q E = _
  cases intsOf ds with
  | none => rfl
  | some l => cases l <;> rfl
@[simp ↓] theorem bi_maxT {ds : List D} : WR (biD .max [.tup ds] S) Q E = mostP (intsOf ds) fun x r => Q (.int (mostI x r)) S := by
  show WR (match intsOf ds with
    | some (x :: r) => .ok (.int (mostI x r)) S
    | _ => .bad) Q E = _
  cases intsOf ds with
  | none => rfl
  | some l => cases l <;> rfl
@[simp ↓] theorem bi_minT {ds : List D} : WR (biD .min [.tup ds] S) Q E = mostP (intsOf ds) fun x r => Q (.int (leastI x r)) S := by
  show WR (match intsOf ds with
    | some (x :: r) => .ok (.int (leastI x r)) S
    | _ => .bad) Q E = _
  cases intsOf ds with
  | none => rfl
  | some l => cases l <;> rfl
@[simp] theorem intsOf_nil : intsOf [] = some [] := rfl
@[simp] theorem intsOf_cons {i : Int} {r : List D} : intsOf (.int i :: r) = (intsOf r).map (i :: ·) := rfl
@[simp] theorem leastI_nil {i : Int} : leastI i [] = i := rfl
@[simp] theorem leastI_cons {i j : Int} {r : List Int} : leastI i (j :: r) = leastI (if j < i then j else i) r := rfl
@[simp] theorem mostI_nil {i : Int} : mostI i [] = i := rfl
@[simp] theorem mostI_cons {i j : Int} {r : List Int} : mostI i (j :: r) = mostI (if i < j then j else i) r := rfl
@[simp ↓] theorem sl_tupW {ds : List D} {l h : Option Int} : slD (.tup ds) l h S = .ok (.tup (cut ds l h)) S := rfl
@[simp] theorem so_tup {ds : List D} : srcOf (.tup ds) S = some (.ds ds) := rfl
@[simp] theorem so_str {z : Str} : srcOf (.str z) S = some (.ds (z.cps.toList.map fun c => .str ⟨#[c]⟩)) := rfl
@[simp] theorem so_loc {n : Nat} : srcOf (.loc n) S = (lstAt S n).map fun _ => .lst n := rfl
end
@[simp] theorem at0 {α : Type} {x : α} {r : List α} : atI (x :: r) 0 = some x := atI_nat (j := 0) rfl
@[simp] theorem at1 {α : Type} {x y : α} {r : List α} : atI (x :: y :: r) 1 = some y := atI_nat (j := 1) rfl
@[simp] theorem at2 {α : Type} {x y z : α} {r : List α} : atI (x :: y :: z :: r) 2 = some z := atI_nat (j := 2) rfl
@[simp] theorem at3 {α : Type} {x y z u : α} {r : List α} : atI (x :: y :: z :: u :: r) 3 = some u := atI_nat (j := 3) rfl
section
variable {n : Nat} {C : CallSem} {G : Nat → Option D} {ρ : Env} {S : Sto} {p : Po} {a b c : Xp} {A B : Sx}
theorem ofR_ws {α : Type} {r : R α} {f : α → Sto → Rs} : Ws (ofR r ρ f) p = WR r (fun x S1 => Ws (f x S1) p) (fun c q S1 => p.ex c q ρ S1) := by cases r <;> rfl
@[simp ↓] theorem s_nx : Ws (.nx ρ S) p = p.nx ρ S := rfl
@[simp ↓] theorem s_rt {d : D} : Ws (.rt d S) p = p.rt d S := rfl
@[simp ↓] theorem s_bad : Ws .bad p = False := rfl
@[simp ↓] theorem s_pass : Ws (run n C G .pass ρ S) p = p.nx ρ S := rfl
@[simp ↓] theorem s_brk : Ws (run n C G .brk ρ S) p = p.bk ρ S := rfl
@[simp ↓] theorem s_cont : Ws (run n C G .cont ρ S) p = p.ct ρ S := rfl
@[simp ↓] theorem s_nil : Ws (run n C G .nil ρ S) p = p.nx ρ S := rfl
@[simp ↓] theorem s_cons : Ws (run n C G (.cons A B) ρ S) p = Ws (run n C G A ρ S) { p with nx := fun ρ1 S1 => Ws (run n C G B ρ1 S1) p } := by
  show Ws (match run n C G A ρ S with
    | .nx ρ1 S1 => run n C G B ρ1 S1
    | r => r) p = _
  cases run n C G A ρ S <;> rfl
@[simp ↓] theorem s_ex : Ws (run n C G (.ex a) ρ S) p = WR (ev C G a ρ S) (fun _ S1 => p.nx ρ S1) (fun c q S1 => p.ex c q ρ S1) := by
  show Ws (ofR _ _ _) p = _
  rw [ofR_ws]
  rfl
@[simp ↓] theorem s_ret : Ws (run n C G (.ret a) ρ S) p = WR (ev C G a ρ S) (fun d S1 => p.rt d S1) (fun c q S1 => p.ex c q ρ S1) := by
  show Ws (ofR _ _ _) p = _
  rw [ofR_ws]
  rfl
@[simp ↓] theorem s_asgV {i : Nat} : Ws (run n C G (.asg (.var i) a) ρ S) p = WR (ev C G a ρ S) (fun d S1 => p.nx (ρ.set i (some d)) S1) (fun c q S1 => p.ex c q ρ S1) := by
  show Ws (ofR _ _ _) p = _
  rw [ofR_ws]
  rfl
@[simp ↓] theorem s_asgT {t : Xp} : Ws (run n C G (.asg (.tup t) a) ρ S) p = WR (ev C G a ρ S) (fun d S1 => optP (bindT (.tup t) d ρ) fun ρ1 => p.nx ρ1 S1) (fun c q S1 => p.ex c q ρ S1) := by
  show Ws (ofR _ _ _) p = _
  rw [ofR_ws]
  congr 1
  funext d S1
  show Ws (match bindT (.tup t) d ρ with
    | some ρ1 => .nx ρ1 S1
    | none => .bad) p = _
  cases bindT (.tup t) d ρ <;> rfl
@[simp ↓] theorem s_asgU {t : Xp} : Ws (run n C G (.asg (.lst t) a) ρ S) p = WR (ev C G a ρ S) (fun d S1 => optP (bindT (.lst t) d ρ) fun ρ1 => p.nx ρ1 S1) (fun c q S1 => p.ex c q ρ S1) := by
  show Ws (ofR _ _ _) p = _
  rw [ofR_ws]
  congr 1
  funext d S1
  show Ws (match bindT (.lst t) d ρ with
    | some ρ1 => .nx ρ1 S1
    | none => .bad) p = _
  cases bindT (.lst t) d ρ <;> rfl
@[simp ↓] theorem s_asgI : Ws (run n C G (.asg (.ix a b) c) ρ S) p = WR (ev C G c ρ S) (fun d S1 => WR (ev C G a ρ S1) (fun x S2 => WR (ev C G b ρ S2) (fun y S3 => optP (setIx x y d S3) fun S4 => p.nx ρ S4) (fun c q S1 => p.ex c q ρ S1)) (fun c q S1 => p.ex c q ρ S1)) (fun c q S1 => p.ex c q ρ S1) := by
  show Ws (ofR _ _ _) p = _
  rw [ofR_ws]
  congr 1
  funext d S1
  show Ws (ofR _ _ fun x S1 => ofR _ _ _) p = _
  rw [ofR_ws]
  congr 1
  funext x S2
  rw [ofR_ws]
  congr 1
  funext y S3
  cases setIx x y d S3 <;> rfl
@[simp ↓] theorem s_asgS {l h : Xp} : Ws (run n C G (.asg (.sl a l h) c) ρ S) p = WR (ev C G c ρ S) (fun d S1 => WR (ev C G a ρ S1) (fun x S2 => WR (evp C G l ρ S2) (fun y S3 => WR (evp C G h ρ S3) (fun z S4 => optP (setSl x y z d S4) fun S5 => p.nx ρ S5) (fun c q S1 => p.ex c q ρ S1)) (fun c q S1 => p.ex c q ρ S1)) (fun c q S1 => p.ex c q ρ S1)) (fun c q S1 => p.ex c q ρ S1) := by
  show Ws (ofR _ _ _) p = _
  rw [ofR_ws]
  congr 1
  funext d S1
  show Ws (ofR _ _ fun x S1 => ofR _ _ fun y S2 => ofR _ _ _) p = _
  rw [ofR_ws]
  congr 1
  funext x S2
  rw [ofR_ws]
  congr 1
  funext y S3
  rw [ofR_ws]
  congr 1
  funext z S4
  cases setSl x y z d S4 <;> rfl
@[simp] theorem parE_nil {ρ : Env} : parE [] [] ρ = some ρ := rfl
@[simp] theorem parE_cons {j : Nat} {js : List Nat} {d : D} {ds : List D} {ρ : Env} : parE (j :: js) (d :: ds) ρ = parE js ds (ρ.set j (some d)) := rfl
@[simp ↓] theorem s_par {js : List Nat} : Ws (run n C G (.par js a) ρ S) p = WR (evs C G a ρ S) (fun ds S1 => optP (parE js ds ρ) fun ρ1 => p.nx ρ1 S1) (fun c q S1 => p.ex c q ρ S1) := by
  show Ws (ofR _ _ _) p = _
  rw [ofR_ws]
  congr 1
  funext ds S1
  cases parE js ds ρ <;> rfl
@[simp ↓] theorem s_aug {i : Nat} {op : Operator} : Ws (run n C G (.aug i op a) ρ S) p = optP (ρ[i]?.bind id) fun x => WR (ev C G a ρ S) (fun y S1 => WR (augD op x y S1) (fun z S2 => p.nx (ρ.set i (some z)) S2) (fun c q S1 => p.ex c q ρ S1)) (fun c q S1 => p.ex c q ρ S1) := by
  show Ws (match ρ[i]?.bind id with
    | some x => ofR (ev C G a ρ S) ρ fun y S1 => ofR (augD op x y S1) ρ fun z S2 => .nx (ρ.set i (some z)) S2
    | none => .bad) p = _
  cases ρ[i]?.bind id with
  | none => rfl
  | some x =>
    show Ws (ofR _ _ fun x S1 => ofR _ _ _) p = _
    rw [ofR_ws]
    simp only [ofR_ws]
    rfl
@[simp ↓] theorem s_augx {op : Operator} : Ws (run n C G (.augx a b op c) ρ S) p = WR (ev C G a ρ S) (fun x S1 => WR (ev C G b ρ S1) (fun y S2 => optP (dixD x y S2) fun old => WR (ev C G c ρ S2) (fun z S3 => WR (augD op old z S3) (fun r S4 => optP (setIx x y r S4) fun S5 => p.nx ρ S5) (fun c q S1 => p.ex c q ρ S1)) (fun c q S1 => p.ex c q ρ S1)) (fun c q S1 => p.ex c q ρ S1)) (fun c q S1 => p.ex c q ρ S1) := by
  show Ws (ofR _ _ fun x S1 => ofR _ _ fun y S2 => _) p = _
  rw [ofR_ws]
  congr 1
  funext x S1
  rw [ofR_ws]
  congr 1
  funext y S2
  cases dixD x y S2 with
  | none => rfl
  | some old =>
    show Ws (ofR _ _ fun z S3 => ofR _ _ _) p = _
    rw [ofR_ws]
    show _ = WR _ _ _
    congr 1
    funext z S3
    rw [ofR_ws]
    congr 1
    funext r S4
    cases setIx x y r S4 <;> rfl
@[simp ↓] theorem s_iff : Ws (run n C G (.iff c A B) ρ S) p = WR (ev C G c ρ S) (fun x S1 => selO (truth x S1) (Ws (run n C G A ρ S1) p) (Ws (run n C G B ρ S1) p)) (fun c q S1 => p.ex c q ρ S1) := by
  show Ws (ofR (asT _) _ _) p = _
  rw [ofR_ws, w_asT]
  congr 1
  funext x S1
  cases truth x S1 with
  | none => rfl
  | some t => cases t <;> rfl
@[simp ↓] theorem s_rse {k : Nat} : Ws (run n C G (.rse k a) ρ S) p = WR (evs C G a ρ S) (fun q S1 => p.ex k q ρ S1) (fun c q S1 => p.ex c q ρ S1) := by
  show Ws (ofR _ _ _) p = _
  rw [ofR_ws]
  rfl
@[simp ↓] theorem s_for {t it : Xp} : Ws (run n C G (.for_ t it A) ρ S) p = WR (evi C G it ρ S) (fun src S1 => Ws (forl src t (fun ρ S => run n C G A ρ S) (src.size S1 + 1) 0 ρ S1) p) (fun c q S1 => p.ex c q ρ S1) := by
  show Ws (ofR _ _ _) p = _
  rw [ofR_ws]
@[simp ↓] theorem s_whl : Ws (run n C G (.whl c A) ρ S) p = Ws (whl (fun ρ S => asT (ev C G c ρ S)) (fun ρ S => run n C G A ρ S) n ρ S) p := rfl
@[simp ↓] theorem s_tryA {cs : List (Nat × Bool)} {o : Option Nat} : Ws (run n C G (.tryA A o cs B) ρ S) p = Ws (run n C G A ρ S) { p with ex := fun c q ρ1 S1 => selO (cs.lookup c) (Ws (run n C G B (asE o (.exn c q) ρ1) S1) { nx := fun ρ S => p.nx (unO o ρ) S, bk := fun ρ S => p.bk (unO o ρ) S, ct := fun ρ S => p.ct (unO o ρ) S, rt := p.rt, ex := fun _ _ _ _ => False }) (p.ex c q ρ1 S1) } := by
  show Ws (match run n C G A ρ S with
    | .exc c' p ρ1 S1 => match cs.lookup c' with
      | some true => suiteR o (run n C G B (asE o (.exn c' p) ρ1) S1)
      | some false => .exc c' p ρ1 S1
      | none => .bad
    | r => r) p = _
  cases run n C G A ρ S with
  | exc c' q ρ1 S1 =>
    show Ws (match cs.lookup c' with
      | some true => suiteR o (run n C G B (asE o (.exn c' q) ρ1) S1)
      | some false => .exc c' q ρ1 S1
      | none => .bad) p = selO (cs.lookup c') _ (p.ex c' q ρ1 S1)
    cases cs.lookup c' with
    | none => rfl
    | some t =>
      cases t with
      | false => rfl
      | true =>
        show Ws (suiteR o (run n C G B (asE o (.exn c' q) ρ1) S1)) p = _
        cases run n C G B (asE o (.exn c' q) ρ1) S1 <;> rfl
  | _ => rfl
@[simp] theorem asE_some {i : Nat} {d : D} {ρ : Env} : asE (some i) d ρ = ρ.set i (some d) := rfl
@[simp] theorem asE_none {d : D} {ρ : Env} : asE none d ρ = ρ := rfl
@[simp] theorem unO_some {i : Nat} {ρ : Env} : unO (some i) ρ = ρ.set i none := rfl
@[simp] theorem unO_none {ρ : Env} : unO none ρ = ρ := rfl
@[simp ↓] theorem s_try {cs : List (Nat × Bool)} : Ws (run n C G (.tryS A cs B) ρ S) p = Ws (run n C G A ρ S) { p with ex := fun c q ρ1 S1 => selO (cs.lookup c) (Ws (run n C G B ρ1 S1) p) (p.ex c q ρ1 S1) } := by
  show Ws (match run n C G A ρ S with
    | .exc c' q ρ1 S1 => match cs.lookup c' with
      | some true => run n C G B ρ1 S1
      | some false => .exc c' q ρ1 S1
      | none => .bad
    | r => r) p = _
  cases run n C G A ρ S with
  | exc c' q ρ1 S1 =>
    show Ws (match cs.lookup c' with
      | some true => run n C G B ρ1 S1
      | some false => .exc c' q ρ1 S1
      | none => .bad) p = selO (cs.lookup c') (Ws (run n C G B ρ1 S1) p) (p.ex c' q ρ1 S1)
    cases cs.lookup c' with
    | none => rfl
    | some t => cases t <;> rfl
  | _ => rfl
theorem w_end {r : Rs} {Q : D → Sto → Prop} {E : Nat → List D → Sto → Prop} : WR (endR r) Q E = Ws r { nx := fun _ S => Q .non S, rt := Q, bk := fun _ _ => False, ct := fun _ _ => False, ex := fun c q _ S => E c q S } := by cases r <;> rfl
@[simp ↓] theorem a_addI {i j : Int} : augD .Add (.int i) (.int j) S = .ok (.int (i + j)) S := rfl
@[simp ↓] theorem a_subI {i j : Int} : augD .Sub (.int i) (.int j) S = .ok (.int (i - j)) S := rfl
end
theorem wp_lcl {src : Src} {tg : Xp} {cond : Env → Sto → R Bool} {elt : Env → Sto → R D} {ρ : Env} {Q : List D → Sto → Prop} {E : Nat → List D → Sto → Prop} (n : Nat) (I : Nat → List D → Sto → Prop)
    (go : ∀ i acc S, i < n → I i acc S → ∃ d ρ1, src.get i S = some (some d) ∧ bindT tg d ρ = some ρ1 ∧ WR (cond ρ1 S) (fun b S1 => if b = true then WR (elt ρ1 S1) (fun y S2 => acc.length < sizeLine ∧ I (i + 1) (acc ++ [y]) S2) Eo else I (i + 1) acc S1) Eo)
    (fin : ∀ acc S, I n acc S → src.get n S = some none ∧ Q acc S) : ∀ (f i : Nat) (acc : List D) (S : Sto), i ≤ n → n < i + f → I i acc S → WR (lcl src tg cond elt ρ f i acc S) Q E
  | 0, i, acc, S, h1, h2, _ => absurd h1 (by omega)
  | f + 1, i, acc, S, h1, h2, h => by
    show WR (match src.get i S with
      | none => .bad
      | some none => .ok acc S
      | some (some d) => match bindT tg d ρ with
        | none => .bad
        | some ρ1 => match cond ρ1 S with
          | .ok true S1 => match elt ρ1 S1 with
            | .ok y S2 => if acc.length < sizeLine then lcl src tg cond elt ρ f (i + 1) (acc ++ [y]) S2 else .bad
            | _ => .bad
          | .ok false S1 => lcl src tg cond elt ρ f (i + 1) acc S1
          | _ => .bad) Q E
    by_cases e : i = n
    · subst e
      obtain ⟨z1, z2⟩ := fin acc S h
      rw [z1]
      exact z2
    · obtain ⟨d, ρ1, z1, z2, z3⟩ := go i acc S (by omega) h
      rw [z1]
      simp only [z2]
      cases q : cond ρ1 S with
      | bad => rw [q] at z3; exact z3.elim
      | exc _ _ _ => rw [q] at z3; exact z3.elim
      | ok b S1 =>
        rw [q] at z3
        cases b with
        | false => exact wp_lcl n I go fin f (i + 1) acc S1 (by omega) (by omega) (by simpa using z3)
        | true =>
          have z4 : WR (elt ρ1 S1) (fun y S2 => acc.length < sizeLine ∧ I (i + 1) (acc ++ [y]) S2) Eo := by simpa using z3
          cases q2 : elt ρ1 S1 with
          | bad => rw [q2] at z4; exact z4.elim
          | exc _ _ _ => rw [q2] at z4; exact z4.elim
          | ok y S2 =>
            rw [q2] at z4
            simp only [q2]
            rw [if_pos z4.1]
            exact wp_lcl n I go fin f (i + 1) (acc ++ [y]) S2 (by omega) (by omega) z4.2
theorem ws_forl {src : Src} {tg : Xp} {b : Env → Sto → Rs} {p : Po} (n : Nat) (I : Nat → Env → Sto → Prop)
    (go : ∀ i ρ S, i < n → I i ρ S → ∃ d ρ1, src.get i S = some (some d) ∧ bindT tg d ρ = some ρ1 ∧ Ws (b ρ1 S) { nx := I (i + 1), ct := I (i + 1), bk := p.nx, rt := p.rt, ex := p.ex })
    (fin : ∀ ρ S, I n ρ S → src.get n S = some none ∧ p.nx ρ S) : ∀ (f i : Nat) (ρ : Env) (S : Sto), i ≤ n → n < i + f → I i ρ S → Ws (forl src tg b f i ρ S) p
  | 0, i, ρ, S, h1, h2, _ => absurd h1 (by omega)
  | f + 1, i, ρ, S, h1, h2, h => by
    show Ws (match src.get i S with
      | none => .bad
      | some none => .nx ρ S
      | some (some d) => match bindT tg d ρ with
        | none => .bad
        | some ρ1 => match b ρ1 S with
          | .nx ρ2 S2 => forl src tg b f (i + 1) ρ2 S2
          | .ct ρ2 S2 => forl src tg b f (i + 1) ρ2 S2
          | .bk ρ2 S2 => .nx ρ2 S2
          | r => r) p
    by_cases e : i = n
    · subst e
      obtain ⟨z1, z2⟩ := fin ρ S h
      rw [z1]
      exact z2
    · obtain ⟨d, ρ1, z1, z2, z3⟩ := go i ρ S (by omega) h
      rw [z1]
      simp only [z2]
      cases q : b ρ1 S with
      | bad => rw [q] at z3; exact z3.elim
      | exc _ _ _ _ => rw [q] at z3; exact z3
      | rt _ _ => rw [q] at z3; exact z3
      | bk _ _ => rw [q] at z3; exact z3
      | nx ρ2 S2 => rw [q] at z3; exact ws_forl n I go fin f (i + 1) ρ2 S2 (by omega) (by omega) z3
      | ct ρ2 S2 => rw [q] at z3; exact ws_forl n I go fin f (i + 1) ρ2 S2 (by omega) (by omega) z3
def Ext (S S' : Sto) : Prop := ∃ J, S' = S ++ J
theorem Ext.refl (S : Sto) : Ext S S := ⟨[], by simp⟩
theorem Ext.trans {S T U : Sto} (h : Ext S T) (k : Ext T U) : Ext S U := by
  obtain ⟨J, rfl⟩ := h
  obtain ⟨L, rfl⟩ := k
  exact ⟨J ++ L, by simp⟩
theorem Ext.push (S : Sto) (so : SO) : Ext S (S ++ [so]) := ⟨[so], rfl⟩
theorem Ext.to {S T : Sto} (h : Ext S T) (so : SO) : Ext S (T ++ [so]) := h.trans (.push T so)
theorem Ext.get {S T : Sto} (h : Ext S T) {n : Nat} {so : SO} (e : S[n]? = some so) : T[n]? = some so := by
  obtain ⟨J, rfl⟩ := h
  rw [List.getElem?_append_left (List.getElem?_eq_some_iff.mp e).1]
  exact e
theorem Ext.lst {S T : Sto} (h : Ext S T) {n : Nat} {ds : List D} (e : lstAt S n = some ds) : lstAt T n = some ds := by
  unfold lstAt at e ⊢
  cases q : S[n]? with
  | none => rw [q] at e; cases e
  | some so => rw [q] at e; rw [h.get q]; exact e
theorem Ext.le {S T : Sto} (h : Ext S T) : S.length ≤ T.length := by
  obtain ⟨J, rfl⟩ := h
  simp
@[simp] theorem get_new {S : Sto} {so : SO} : (S ++ [so])[S.length]? = some so := by simp
@[simp] theorem lst_new {S : Sto} {ds : List D} : lstAt (S ++ [.lst ds]) S.length = some ds := by simp [lstAt]
section
variable {C : CallSem} {G : Nat → Option D} {ρ : Env} {S : Sto} {Q : D → Sto → Prop} {Q' : Src → Sto → Prop} {E : Nat → List D → Sto → Prop} {a b c : Xp} {n : Nat} {p : Po} {A B : Sx}
@[simp ↓] theorem w_dget : WR (ev C G (.dget a b c) ρ S) Q E = WR (ev C G a ρ S) (fun x S1 => optP (dicD S1 x) fun _ => WR (ev C G b ρ S1) (fun y S2 => WR (ev C G c ρ S2) (fun z S3 => optP (dgetD x y z S3) fun r => Q r S3) E) E) E := by
  show WR (R.bind _ fun x S1 => _) Q E = _
  rw [wp_bind]
  congr 1
  funext x S1
  cases dicD S1 x with
  | none => rfl
  | some n =>
    show WR (R.bind _ fun y S2 => R.bind _ _) Q E = _
    simp only [wp_bind, w_opt]
    rfl
@[simp ↓] theorem w_dgetn : WR (ev C G (.dgetn a b c) ρ S) Q E = WR (ev C G a ρ S) (fun x S1 => optP (dnD S1 x) fun _ => WR (ev C G b ρ S1) (fun y S2 => WR (ev C G c ρ S2) (fun z S3 => optP (dgetnD x y z S3) fun r => Q r S3) E) E) E := by
  show WR (R.bind _ fun x S1 => _) Q E = _
  rw [wp_bind]
  congr 1
  funext x S1
  cases dnD S1 x with
  | none => rfl
  | some n =>
    show WR (R.bind _ fun y S2 => R.bind _ _) Q E = _
    simp only [wp_bind, w_opt]
    rfl
@[simp ↓] theorem w_dsetd : WR (ev C G (.dsetd a b c) ρ S) Q E = WR (ev C G a ρ S) (fun x S1 => optP (asDic x S1) fun n => WR (ev C G b ρ S1) (fun y S2 => WR (ev C G c ρ S2) (fun z S3 => WR (dsetdD n y z S3) Q E) E) E) E := by
  show WR (R.bind _ fun x S1 => _) Q E = _
  rw [wp_bind]
  congr 1
  funext x S1
  cases asDic x S1 with
  | none => rfl
  | some n =>
    show WR (R.bind _ fun y S2 => R.bind _ _) Q E = _
    simp only [wp_bind]
    rfl
@[simp ↓] theorem w_lix : WR (ev C G (.lix a b) ρ S) Q E = WR (ev C G a ρ S) (fun x S1 => (lstD S1 x).isSome = true ∧ WR (ev C G b ρ S1) (fun y S2 => optP (lixD x y S2) fun z => Q z S2) E) E := by
  rw [ev, wp_bind]
  congr 1
  funext x S1
  cases h : (lstD S1 x).isSome
  · simp [WR]
  · simp [wp_bind, w_opt]
@[simp ↓] theorem w_prm {f : List D → Sto → R D} {es : Xp} : WR (ev C G (.prm f es) ρ S) Q E = WR (evs C G es ρ S) (fun xs S1 => WR (f xs S1) Q E) E := by
  show WR (R.bind _ _) Q E = _
  rw [wp_bind]
@[simp ↓] theorem w_itp {f : List D → Sto → R Src} {es : Xp} : WR (evi C G (.itp f es) ρ S) Q' E = WR (evs C G es ρ S) (fun xs S1 => WR (f xs S1) Q' E) E := by
  show WR (R.bind _ _) Q' E = _
  rw [wp_bind]
@[simp ↓] theorem w_fld {f : Str} : WR (ev C G (.fld f a) ρ S) Q E = WR (ev C G a ρ S) (fun x S1 => optP (insF S1 x f) fun r => Q r S1) E := by
  show WR (R.bind _ fun x S1 => _) Q E = _
  rw [wp_bind]
  congr 1
  funext x S1
  rw [w_opt]
@[simp ↓] theorem w_meth {m : Str} {c i : Nat} {es : Xp} : WR (ev C G (.meth m c i a es) ρ S) Q E = WR (ev C G a ρ S) (fun x S1 => insM S1 x c m = true ∧ WR (evs C G es ρ S1) (fun xs S2 => WR (C i (x :: xs) S2) Q E) E) E := by
  show WR (R.bind _ fun x S1 => if insM S1 x c m = true then R.bind _ _ else R.bad) Q E = _
  rw [wp_bind]
  congr 1
  funext x S1
  rw [if_bad, wp_bind]
def nonP (r : D) (p : Prop) : Prop := match r with
  | .non => p
  | _ => False
@[simp] theorem nonP_non {p : Prop} : nonP .non p = p := rfl
@[simp ↓] theorem w_mko {c i : Nat} {es : Xp} : WR (ev C G (.mko c i es) ρ S) Q E = WR (evs C G es ρ S) (fun xs S1 => WR (C i (.loc S1.length :: xs) (S1 ++ [.ins c []])) (fun r S2 => nonP r (Q (.loc S1.length) S2)) E) E := by
  show WR (R.bind _ fun xs S1 => R.bind _ fun r S2 => _) Q E = _
  rw [wp_bind]
  congr 1
  funext xs S1
  rw [wp_bind]
  congr 1
  funext r S2
  cases r <;> rfl
@[simp ↓] theorem w_lcd {it tg kx vx cd : Xp} {vs : List Nat} : WR (ev C G (.lcd it tg kx vx cd vs) ρ S) Q E = WR (evi C G it ρ S) (fun src S1 =>
    WR (lcld src tg (fun ρ1 S2 => asT (ev C G cd ρ1 S2)) (fun ρ1 S2 => ev C G kx ρ1 S2) (fun ρ1 S2 => ev C G vx ρ1 S2) (wipeE ρ vs) (src.size S1 + 1) 0 [] S1) (fun kvs S2 => Q (.loc S2.length) (S2 ++ [.dic kvs])) E) E := by
  show WR (R.bind _ fun src S1 => R.bind _ fun kvs S2 => _) Q E = _
  rw [wp_bind]
  congr 1
  funext src S1
  rw [wp_bind]
  rfl
@[simp ↓] theorem s_asgs {ts es : Xp} : Ws (run n C G (.asgs ts es) ρ S) p = WR (evs C G es ρ S) (fun ds S1 => Ws (setTs C G ts ds ρ S1) p) (fun c q S1 => p.ex c q ρ S1) := by
  show Ws (ofR _ _ _) p = _
  rw [ofR_ws]
@[simp ↓] theorem s_setTs_nil : Ws (setTs C G .nil [] ρ S) p = p.nx ρ S := rfl
@[simp ↓] theorem s_setTs_ix {d : D} {ds : List D} : Ws (setTs C G (.cons (.ix a b) c) (d :: ds) ρ S) p = WR (ev C G a ρ S) (fun x S2 => WR (ev C G b ρ S2) (fun y S3 => optP (setIx x y d S3) fun S4 => Ws (setTs C G c ds ρ S4) p) (fun e q S1 => p.ex e q ρ S1)) (fun e q S1 => p.ex e q ρ S1) := by
  have h : setTs C G (.cons (.ix a b) c) (d :: ds) ρ S = CC.ofR (ev C G a ρ S) ρ fun x S1 => CC.ofR (ev C G b ρ S1) ρ fun y S2 => match setIx x y d S2 with
      | some S3 => setTs C G c ds ρ S3
      | none => .bad := by
    show (match setT C G (.ix a b) d ρ S with
      | .nx ρ1 S1 => setTs C G c ds ρ1 S1
      | r => r) = _
    show (match CC.ofR (ev C G a ρ S) ρ fun x S1 => CC.ofR (ev C G b ρ S1) ρ fun y S2 => match setIx x y d S2 with
      | some S3 => Rs.nx ρ S3
      | none => .bad with
      | .nx ρ1 S1 => setTs C G c ds ρ1 S1
      | r => r) = _
    cases ev C G a ρ S with
    | ok x S1 =>
      simp only [ofR_ok]
      cases ev C G b ρ S1 with
      | ok y S2 =>
        simp only [ofR_ok]
        cases setIx x y d S2 <;> rfl
      | exc _ _ _ => rfl
      | bad => rfl
    | exc _ _ _ => rfl
    | bad => rfl
  rw [h, ofR_ws]
  congr 1
  funext x S1
  rw [ofR_ws]
  congr 1
  funext y S2
  cases setIx x y d S2 <;> rfl
@[simp ↓] theorem s_fset {f : Str} : Ws (run n C G (.fset a f b) ρ S) p = WR (ev C G b ρ S) (fun d S1 => WR (ev C G a ρ S1) (fun x S2 => optP (insS S2 x f d) fun S3 => p.nx ρ S3) (fun e q S1 => p.ex e q ρ S1)) (fun e q S1 => p.ex e q ρ S1) := by
  show Ws (ofR _ _ fun d S1 => ofR _ _ fun x S2 => _) p = _
  rw [ofR_ws]
  congr 1
  funext d S1
  rw [ofR_ws]
  congr 1
  funext x S2
  cases insS S2 x f d <;> rfl
@[simp ↓] theorem w_lset : WR (ev C G (.lset a) ρ S) Q E = WR (ev C G a ρ S) (fun x S1 => optP ((lstD S1 x).bind lsetL) fun n => Q (.int n) S1) E := by
  show WR (R.bind _ fun x S1 => _) Q E = _
  rw [wp_bind]
  congr 1
  funext x S1
  show WR (R.opt _ _) Q E = _
  rw [w_opt, optP_map]
@[simp ↓] theorem w_sumv : WR (ev C G (.sumv a) ρ S) Q E = WR (ev C G a ρ S) (fun x S1 => optP (dicD S1 x) fun kvs => optP (intsOf (kvs.map (·.2))) fun ns => Q (.int ns.sum) S1) E := by
  show WR (R.bind _ fun x S1 => _) Q E = _
  rw [wp_bind]
  congr 1
  funext x S1
  cases dicD S1 x with
  | none => rfl
  | some n => show WR (R.opt _ _) Q E = _; rw [w_opt, optP_map]; rfl
def fdP (x : D) (f : List Key → List D → Prop) : Prop := match x with
  | .fd ks ds => f ks ds
  | _ => False
@[simp] theorem fdP_fd {ks : List Key} {ds : List D} {f : List Key → List D → Prop} : fdP (.fd ks ds) f = f ks ds := rfl
@[simp ↓] theorem w_dit : WR (evi C G (.dit a) ρ S) Q' E = WR (ev C G a ρ S) (fun x S1 => fdP x fun ks ds => Q' (.ds ((ks.zip ds).map fun kv => .tup [kDi kv.1, kv.2])) S1) E := by
  show WR (R.bind _ fun x S1 => _) Q' E = _
  rw [wp_bind]
  congr 1
  funext x S1
  cases x <;> rfl
@[simp ↓] theorem w_dks : WR (evi C G (.dks a) ρ S) Q' E = WR (ev C G a ρ S) (fun x S1 => fdP x fun ks ds => Q' (.ds ((ks.zip ds).map fun kv => kDi kv.1)) S1) E := by
  show WR (R.bind _ fun x S1 => _) Q' E = _
  rw [wp_bind]
  congr 1
  funext x S1
  cases x <;> rfl
@[simp ↓] theorem w_dvs : WR (evi C G (.dvs a) ρ S) Q' E = WR (ev C G a ρ S) (fun x S1 => fdP x fun ks ds => Q' (.ds ((ks.zip ds).map fun kv => kv.2)) S1) E := by
  show WR (R.bind _ fun x S1 => _) Q' E = _
  rw [wp_bind]
  congr 1
  funext x S1
  cases x <;> rfl
def fmP (x : D) (f : List NestedKey → List D → Prop) : Prop := match x with
  | .fm ks ds => f ks ds
  | _ => False
@[simp] theorem fmP_fm {ks : List NestedKey} {ds : List D} {f : List NestedKey → List D → Prop} : fmP (.fm ks ds) f = f ks ds := rfl
@[simp ↓] theorem w_dksn : WR (evi C G (.dksn a) ρ S) Q' E = WR (ev C G a ρ S) (fun x S1 => fmP x fun ks ds => Q' (.ds ((ks.zip ds).map fun kv => nD kv.1)) S1) E := by
  show WR (R.bind _ fun x S1 => _) Q' E = _
  rw [wp_bind]
  congr 1
  funext x S1
  cases x <;> rfl
end
section
variable {S : Sto} {Q : D → Sto → Prop} {Q' : Src → Sto → Prop} {E : Nat → List D → Sto → Prop}
@[simp ↓] theorem w_lrg {n : Int} : WR (lrgF [.int n] S) Q E = ((small62 n = true ∧ n ≤ 16777216) ∧ Q (.loc S.length) (S ++ [.lst (rangeD 0 n.toNat)])) := by
  show WR (if small62 n = true ∧ n ≤ 16777216 then mk (.lst (rangeD 0 n.toNat)) S else .bad) Q E = _
  by_cases c : small62 n = true ∧ n ≤ 16777216
  · rw [if_pos c]
    exact propext ⟨fun h => ⟨c, h⟩, fun h => h.2⟩
  · rw [if_neg c]
    exact propext ⟨fun h => h.elim, fun h => c h.1⟩
end
end CC
namespace CC
open PySem PySem.Spec PyProof.Rows L2
theorem lt_mono {j k : Nat} (h : j ≤ k) : ∀ {d : D}, d.lt j = true → d.lt k = true
  | .non, _ => by simp
  | .bl _, _ => by simp
  | .int _, _ => by simp
  | .str _, _ => by simp
  | .ty _, _ => by simp
  | .fn _, _ => by simp
  | .loc n, q => by simp only [lt_loc, decide_eq_true_eq] at q ⊢; omega
  | .tup ds, q => by
    simp only [lt_tup, ltL, List.all_eq_true] at q ⊢
    exact fun d hd => lt_mono h (q d hd)
  | .fl ds, q => by
    simp only [lt_fl, ltL, List.all_eq_true] at q ⊢
    exact fun d hd => lt_mono h (q d hd)
  | .fd ks ds, q => by
    simp only [lt_fd, ltL, List.all_eq_true] at q ⊢
    exact fun d hd => lt_mono h (q d hd)
  | .exn c ds, q => by
    simp only [lt_exn, ltL, List.all_eq_true] at q ⊢
    exact fun d hd => lt_mono h (q d hd)
  | .fm ks ds, q => by
    simp only [lt_fm, ltL, List.all_eq_true] at q ⊢
    exact fun d hd => lt_mono h (q d hd)
  | .bd ds, q => by
    simp only [lt_bd, ltL, List.all_eq_true] at q ⊢
    exact fun d hd => lt_mono h (q d hd)
  | .cls _, _ => by simp
theorem lt_of {k : Nat} {d : D} (h : d.lt 0 = true) : d.lt k = true := lt_mono (Nat.zero_le _) h
@[simp] theorem lt_lenS {S : Sto} {d : D} (h : d.lt 0 = true) : d.lt S.length = true := lt_of h
@[simp] theorem lt_succ {k : Nat} {d : D} (h : d.lt 0 = true) : d.lt (k + 1) = true := lt_of h
@[simp] theorem ltL_nil {k : Nat} : ltL k [] = true := by unfold ltL; exact List.all_nil
@[simp] theorem ltL_cons {k : Nat} {d : D} {ds : List D} : ltL k (d :: ds) = (d.lt k && ltL k ds) := by unfold ltL; exact List.all_cons
@[simp] theorem ltL_append {k : Nat} {a b : List D} : ltL k (a ++ b) = (ltL k a && ltL k b) := List.all_append
theorem ltL_map {α : Type} {k : Nat} {f : α → D} {l : List α} (h : ∀ x ∈ l, (f x).lt k = true) : ltL k (l.map f) = true := by
  simp only [ltL, List.all_map, List.all_eq_true]
  exact h
@[simp] theorem ltL_map' {α : Type} {k : Nat} {f : α → D} {l : List α} (h : ∀ x, (f x).lt k = true) : ltL k (l.map f) = true := ltL_map fun x _ => h x
@[simp] theorem ltL_replicate {k n : Nat} {d : D} (h : d.lt k = true) : ltL k (List.replicate n d) = true := by
  simp only [ltL, List.all_eq_true]
  intro x hx
  rw [(List.mem_replicate.mp hx).2]
  exact h
theorem ltL_sub {k : Nat} {a b : List D} (h : ∀ d ∈ a, d ∈ b) (q : ltL k b = true) : ltL k a = true := by
  simp only [ltL, List.all_eq_true] at q ⊢
  exact fun d hd => q d (h d hd)
@[simp] theorem ltL_tail {k : Nat} {l : List D} (h : ltL k l = true) : ltL k l.tail = true := ltL_sub (fun _ hd => List.mem_of_mem_tail hd) h
@[simp] theorem ltL_take {k n : Nat} {l : List D} (h : ltL k l = true) : ltL k (l.take n) = true := ltL_sub (fun _ hd => List.mem_of_mem_take hd) h
@[simp] theorem ltL_drop {k n : Nat} {l : List D} (h : ltL k l = true) : ltL k (l.drop n) = true := ltL_sub (fun _ hd => List.mem_of_mem_drop hd) h
@[simp] theorem ltL_reverse {k : Nat} {l : List D} (h : ltL k l = true) : ltL k l.reverse = true := ltL_sub (fun _ hd => List.mem_reverse.mp hd) h
@[simp] theorem ltL_cut {k : Nat} {l : List D} {lo hi : Option Int} (h : ltL k l = true) : ltL k (cut l lo hi) = true := by unfold cut; exact ltL_take (ltL_drop h)
section
variable {S S' : Sto} {J : List SO} {b : Bool} {n : Nat} {x y : SO}
theorem keepS_app : keepS S (S ++ J) := fun i so hi e => .inl (by rw [List.getElem?_append_left hi] at e; exact e)
@[simp] theorem cut_app : cutS S true (S ++ J) = S := by
  unfold cutS
  rw [if_pos ⟨rfl, keepS_app⟩, List.take_left']
  rfl
@[simp] theorem cut_same : cutS S b S = S := by
  unfold cutS
  split
  · exact List.take_length
  · rfl
theorem cut_len (h : S'.length = S.length) : cutS S b S' = S' := by
  unfold cutS
  split
  · rw [← h]; exact List.take_length
  · rfl
@[simp] theorem cut_set : cutS S b (S.set n x) = S.set n x := cut_len (by simp)
@[simp] theorem cut_false : cutS S false S' = S' := by
  unfold cutS
  rw [if_neg (by simp)]
@[simp] theorem cut_set_app (h : x.lt S.length = true) : cutS S true (S.set n x ++ J) = S.set n x := by
  unfold cutS
  have k : keepS S (S.set n x ++ J) := fun i so hi e => by
    rw [List.getElem?_append_left (by simpa using hi)] at e
    by_cases c : n = i
    · subst c
      rw [List.getElem?_set_self hi] at e
      cases e
      exact .inr h
    · rw [List.getElem?_set_ne c] at e
      exact .inl e
  rw [if_pos ⟨rfl, k⟩, List.take_left' (by simp)]
@[simp] theorem so_lst {k : Nat} {ds : List D} : (SO.lst ds).lt k = ltL k ds := rfl
@[simp] theorem so_frz {k : Nat} {ds : List D} : (SO.frz ds).lt k = ltL k ds := rfl
@[simp] theorem so_dic {k : Nat} {kvs : List (Key × D)} : (SO.dic kvs).lt k = ltL k (kvs.map (·.2)) := rfl
@[simp] theorem so_fdic {k : Nat} {kvs : List (Key × D)} : (SO.fdic kvs).lt k = ltL k (kvs.map (·.2)) := rfl
@[simp] theorem so_dn {k : Nat} {kvs : List (NestedKey × D)} : (SO.dn kvs).lt k = ltL k (kvs.map (·.2)) := rfl
@[simp] theorem so_fdn {k : Nat} {kvs : List (NestedKey × D)} : (SO.fdn kvs).lt k = ltL k (kvs.map (·.2)) := rfl
@[simp] theorem new_get : (S ++ x :: J)[S.length]? = some x := by simp
@[simp] theorem new_get1 : (S ++ x :: y :: J)[S.length + 1]? = some y := by
  rw [List.getElem?_append_right (by omega)]
  simp
@[simp] theorem new_set {z : SO} : (S ++ x :: J).set S.length z = S ++ z :: J := by
  rw [List.set_append_right _ _ (Nat.le_refl _)]
  simp
@[simp] theorem new_set1 {z : SO} : (S ++ x :: y :: J).set (S.length + 1) z = S ++ x :: z :: J := by
  rw [List.set_append_right _ _ (by omega)]
  simp
theorem old_get {z : SO} (h : S[n]? = some z) : (S ++ J)[n]? = some z := by
  rw [List.getElem?_append_left (List.getElem?_eq_some_iff.mp h).1]
  exact h
theorem old_lt {z : SO} (h : S[n]? = some z) : n < S.length := (List.getElem?_eq_some_iff.mp h).1
theorem old_set {z u : SO} (h : S[n]? = some z) : (S ++ J).set n u = S.set n u ++ J := List.set_append_left _ _ (old_lt h)
theorem set_get {z u : SO} (h : S[n]? = some z) : (S.set n u)[n]? = some u := List.getElem?_set_self (old_lt h)
theorem lst_at {ds : List D} (h : S[n]? = some (.lst ds)) : lstAt S n = some ds := by unfold lstAt; rw [h]
theorem lst_frz {ds : List D} (h : S[n]? = some (.frz ds)) : lstAt S n = some ds := by unfold lstAt; rw [h]
theorem lstM_at {ds : List D} (h : S[n]? = some (.lst ds)) : lstM S (.loc n) = some ds := by show (match S[n]? with | some (.lst ds) => some ds | _ => none) = _; rw [h]
theorem lstW_at {ds : List D} (h : S[n]? = some (.lst ds)) : lstW S (.loc n) = some ds := by show (match S[n]? with | some (.lst ds) => some ds | _ => none) = _; rw [h]
@[simp] theorem lstAt_new {ds : List D} : lstAt (S ++ .lst ds :: J) S.length = some ds := lst_at new_get
@[simp] theorem lstM_new {ds : List D} : lstM (S ++ .lst ds :: J) (.loc S.length) = some ds := lstM_at new_get
@[simp] theorem lstW_new {ds : List D} : lstW (S ++ .lst ds :: J) (.loc S.length) = some ds := lstW_at new_get
@[simp] theorem lstM_new1 {ds : List D} : lstM (S ++ x :: .lst ds :: J) (.loc (S.length + 1)) = some ds := lstM_at new_get1
@[simp] theorem lstW_new1 {ds : List D} : lstW (S ++ x :: .lst ds :: J) (.loc (S.length + 1)) = some ds := lstW_at new_get1
@[simp] theorem lstAt_new1 {ds : List D} : lstAt (S ++ x :: .lst ds :: J) (S.length + 1) = some ds := lst_at new_get1
variable {Q : D → Sto → Prop} {E : Nat → List D → Sto → Prop} {ds : List D}
theorem fr_at {S0 : Sto} (h : S[n]? = some (.lst ds)) : WR (trim S0 (frzD (.loc n) S)) Q E = Q (.fl ds) (cutS S0 (ltL S0.length ds) (S.set n (.frz ds))) := by
  have e : frzD (.loc n) S = .ok (.fl ds) (S.set n (.frz ds)) := by
    unfold frzD
    simp only [h]
  rw [e, wp_trim, w_ok, lt_fl]
theorem fr_dat {S0 : Sto} {kvs : List (Key × D)} (h : S[n]? = some (.dic kvs)) : WR (trim S0 (frzD (.loc n) S)) Q E = Q (.fd (kvs.map (·.1)) (kvs.map (·.2))) (cutS S0 (ltL S0.length (kvs.map (·.2))) (S.set n (.fdic kvs))) := by
  have e : frzD (.loc n) S = .ok (.fd (kvs.map (·.1)) (kvs.map (·.2))) (S.set n (.fdic kvs)) := by
    unfold frzD
    simp only [h]
  rw [e, wp_trim, w_ok, lt_fd]
theorem fr_nat {S0 : Sto} {kvs : List (NestedKey × D)} (h : S[n]? = some (.dn kvs)) : WR (trim S0 (frzD (.loc n) S)) Q E = Q (.fm (kvs.map (·.1)) (kvs.map (·.2))) (cutS S0 (ltL S0.length (kvs.map (·.2))) (S.set n (.fdn kvs))) := by
  have e : frzD (.loc n) S = .ok (.fm (kvs.map (·.1)) (kvs.map (·.2))) (S.set n (.fdn kvs)) := by
    unfold frzD
    simp only [h]
  rw [e, wp_trim, w_ok, lt_fm]
@[simp ↓] theorem fr_new (q : ltL S.length ds = true) : WR (trim S (frzD (.loc S.length) (S ++ [.lst ds]))) Q E = Q (.fl ds) S := by
  rw [fr_at new_get, q, new_set, cut_app]
@[simp ↓] theorem fr_new0 : WR (trim S (frzD (.loc S.length) (S ++ [.lst []]))) Q E = Q (.fl []) S := fr_new rfl
@[simp ↓] theorem fr_dnew {kvs : List (Key × D)} (q : ltL S.length (kvs.map (·.2)) = true) : WR (trim S (frzD (.loc S.length) (S ++ [.dic kvs]))) Q E = Q (.fd (kvs.map (·.1)) (kvs.map (·.2))) S := by
  rw [fr_dat new_get, q, new_set, cut_app]
@[simp ↓] theorem fr_dnew0 : WR (trim S (frzD (.loc S.length) (S ++ [.dic []]))) Q E = Q (.fd [] []) S := fr_dnew (kvs := []) rfl
@[simp ↓] theorem fr_nnew {kvs : List (NestedKey × D)} (q : ltL S.length (kvs.map (·.2)) = true) : WR (trim S (frzD (.loc S.length) (S ++ [.dn kvs]))) Q E = Q (.fm (kvs.map (·.1)) (kvs.map (·.2))) S := by
  rw [fr_nat new_get, q, new_set, cut_app]
@[simp ↓] theorem fr_nnew0 : WR (trim S (frzD (.loc S.length) (S ++ [.dn []]))) Q E = Q (.fm [] []) S := fr_nnew (kvs := []) rfl
theorem cut_gen {S0 S2 : Sto} (hl : S2.length = S0.length) (hk : ∀ (i : Nat) (so : SO), S2[i]? = some so → S0[i]? = some so ∨ so.lt S0.length = true) : cutS S0 true (S2 ++ J) = S2 := by
  unfold cutS
  rw [if_pos ⟨rfl, fun i so hi e => hk i so (by rw [List.getElem?_append_left (by omega)] at e; exact e)⟩, List.take_left' hl]
theorem keep_set (h : y.lt S.length = true) : ∀ (i : Nat) (so : SO), (S.set n y)[i]? = some so → (S.set n x)[i]? = some so ∨ so.lt (S.set n x).length = true := fun i so e => by
  by_cases c : n = i
  · subst c
    by_cases hi : n < S.length
    · rw [List.getElem?_set_self hi] at e
      cases e
      exact .inr (by rw [List.length_set]; exact h)
    · rw [List.getElem?_eq_none (by simpa using hi)] at e
      cases e
  · rw [List.getElem?_set_ne c] at e ⊢
    exact .inl e
@[simp] theorem cut_set2 (h : y.lt S.length = true) : cutS (S.set n x) true (S.set n y ++ J) = S.set n y := cut_gen (by simp) (keep_set h)
@[simp] theorem cut_set3 {b : Bool} : cutS (S.set n x) b (S.set n y) = S.set n y := cut_len (by simp)
@[simp ↓] theorem fr_setG (hy : y.lt S.length = true) (q : ltL S.length ds = true) : WR (trim (S.set n x) (frzD (.loc (S.set n y).length) (S.set n y ++ [.lst ds]))) Q E = Q (.fl ds) (S.set n y) := by
  rw [fr_at new_get, new_set, List.length_set, q, cut_set2 hy]
@[simp ↓] theorem fr_setS (hy : y.lt S.length = true) (q : ltL S.length ds = true) : WR (trim S (frzD (.loc (S.set n y).length) (S.set n y ++ [.lst ds]))) Q E = Q (.fl ds) (S.set n y) := by
  rw [fr_at new_get, new_set, q, cut_set_app hy]
@[simp ↓] theorem fr_setG' (hy : y.lt S.length = true) (q : ltL S.length ds = true) : WR (trim (S.set n x) (frzD (.loc S.length) (S.set n y ++ [.lst ds]))) Q E = Q (.fl ds) (S.set n y) := by
  have := fr_setG (x := x) (n := n) (Q := Q) (E := E) hy q
  rwa [List.length_set] at this
@[simp ↓] theorem fr_setS' (hy : y.lt S.length = true) (q : ltL S.length ds = true) : WR (trim S (frzD (.loc S.length) (S.set n y ++ [.lst ds]))) Q E = Q (.fl ds) (S.set n y) := by
  have := fr_setS (n := n) (Q := Q) (E := E) hy q
  rwa [List.length_set] at this
@[simp ↓] theorem fr_int {S0 : Sto} {i : Int} : WR (trim S0 (frzD (.int i) S)) Q E = Q (.int i) (cutS S0 true S) := by rw [wp_trim]; show Q _ (cutS S0 _ S) = _; rw [lt_int]
@[simp ↓] theorem fr_bl {S0 : Sto} {i : Bool} : WR (trim S0 (frzD (.bl i) S)) Q E = Q (.bl i) (cutS S0 true S) := by rw [wp_trim]; show Q _ (cutS S0 _ S) = _; rw [lt_bl]
@[simp ↓] theorem fr_str {S0 : Sto} {i : Str} : WR (trim S0 (frzD (.str i) S)) Q E = Q (.str i) (cutS S0 true S) := by rw [wp_trim]; show Q _ (cutS S0 _ S) = _; rw [lt_str]
@[simp ↓] theorem fr_non {S0 : Sto} : WR (trim S0 (frzD .non S)) Q E = Q .non (cutS S0 true S) := by rw [wp_trim]; show Q _ (cutS S0 _ S) = _; rw [lt_non]
@[simp ↓] theorem fr_tup {S0 : Sto} : WR (trim S0 (frzD (.tup ds) S)) Q E = Q (.tup ds) (cutS S0 (ltL S0.length ds) S) := by rw [wp_trim]; show Q _ (cutS S0 _ S) = _; rw [lt_tup]
@[simp ↓] theorem fr_fl {S0 : Sto} : WR (trim S0 (frzD (.fl ds) S)) Q E = Q (.fl ds) (cutS S0 (ltL S0.length ds) S) := by rw [wp_trim]; show Q _ (cutS S0 _ S) = _; rw [lt_fl]
end
section
variable {S S1 : Sto} {n i m : Nat} {p : Po} {C : CallSem} {G : Nat → Option D} {A : Sx} {ρ : Env} {ds : List D}
@[simp ↓] theorem s_fz : Ws (run n C G (.fz i A) ρ S) p = Ws (run n C G A ρ S) { p with nx := fun ρ1 S1 => Ws (fzE i S ρ1 S1) p } := by
  show Ws (match run n C G A ρ S with
    | .nx ρ1 S1 => fzE i S ρ1 S1
    | r => r) p = _
  cases run n C G A ρ S <;> rfl
@[simp ↓] theorem s_wip : Ws (run n C G (.wip i A) ρ S) p = Ws (run n C G A (ρ.set i none) S) p := rfl
theorem fz_at (h : ρ[i]?.bind id = some (.loc m)) (e : S1[m]? = some (.lst ds)) : Ws (fzE i S ρ S1) p = p.nx (ρ.set i (some (.fl ds))) (cutS S (envLt S.length (ρ.set i (some (.fl ds)))) (S1.set m (.frz ds))) := by
  unfold fzE
  rw [h]
  have e2 : frzD (.loc m) S1 = .ok (.fl ds) (S1.set m (.frz ds)) := by unfold frzD; simp only [e]
  simp only [e2]
  rfl
theorem fz_old (h : ρ[i]?.bind id = some (.loc m)) (e : S1[m]? = some (.lst ds)) (l : S1.length = S.length) : Ws (fzE i S ρ S1) p = p.nx (ρ.set i (some (.fl ds))) (S1.set m (.frz ds)) := by
  rw [fz_at h e, cut_len (by rw [List.length_set, l])]
@[simp] theorem envLt_nil {k : Nat} : envLt k [] = true := rfl
@[simp] theorem envLt_none {k : Nat} {ρ : Env} : envLt k (none :: ρ) = envLt k ρ := rfl
@[simp] theorem envLt_some {k : Nat} {d : D} {ρ : Env} : envLt k (some d :: ρ) = (d.lt k && envLt k ρ) := rfl
end
section
variable {i : Nat} {t a b : Xp} {d : D} {ds : List D} {ρ : Env} {vs : List Nat}
@[simp] theorem bindT_var : bindT (.var i) d ρ = some (ρ.set i (some d)) := by simp [bindT]
@[simp] theorem bindT_tup : bindT (.tup t) (.tup ds) ρ = bindL t ds ρ := by simp [bindT]
@[simp] theorem bindT_lst : bindT (.lst t) (.fl ds) ρ = bindL t ds ρ := by simp [bindT]
@[simp] theorem bindL_nil : bindL .nil [] ρ = some ρ := by simp [bindL]
@[simp] theorem bindL_cons : bindL (.cons a b) (d :: ds) ρ = (bindT a d ρ).bind fun ρ1 => bindL b ds ρ1 := by simp [bindL]
@[simp] theorem wipeE_nil : wipeE ρ [] = ρ := rfl
@[simp] theorem wipeE_cons : wipeE ρ (i :: vs) = (wipeE ρ vs).set i none := rfl
end
structure Walk (src : Src) (S : Sto) (l : List D) : Prop where
  get : ∀ i : Nat, src.get i S = some l[i]?
  size : l.length ≤ src.size S
theorem walk_ds {l : List D} {S : Sto} : Walk (.ds l) S l := ⟨fun _ => rfl, Nat.le_refl _⟩
theorem walk_lst {n : Nat} {l : List D} {S : Sto} (h : lstAt S n = some l) : Walk (.lst n) S l :=
  ⟨fun i => by show (lstAt S n).map _ = _; rw [h]; rfl, by show _ ≤ ((lstAt S n).getD []).length; rw [h]; exact Nat.le_refl _⟩
theorem lcS_fm {α : Type} {src : Src} {m : List α} {enc : α → D} {tg : Xp} {cond : Env → Sto → R Bool} {elt : Env → Sto → R D} {ρ : Env} {S : Sto} {Q : List D → Sto → Prop} {E : Nat → List D → Sto → Prop} (w : Walk src S (m.map enc)) (c : α → Bool) (f : α → D) (hl : m.length ≤ sizeLine)
    (go : ∀ x ∈ m, optP (bindT tg (enc x) ρ) fun ρ1 => WR (cond ρ1 S) (fun b S2 => b = c x ∧ S2 = S) Eo ∧ (c x = true → WR (elt ρ1 S) (fun y S3 => y = f x ∧ S3 = S) Eo))
    (fin : Q ((m.filter c).map f) S) : WR (lcl src tg cond elt ρ (Src.size src S + 1) 0 [] S) Q E := by
  have hw := w.size
  rw [List.length_map] at hw
  refine wp_lcl m.length (fun i acc S1 => acc = ((m.take i).filter c).map f ∧ S1 = S) ?_ ?_ _ 0 [] S (Nat.zero_le _) (by omega) ⟨by simp, rfl⟩
  · rintro i acc S1 hi ⟨rfl, rfl⟩
    have g := go m[i] (List.getElem_mem hi)
    cases hb : bindT tg (enc m[i]) ρ with
    | none => rw [hb] at g; exact g.elim
    | some ρ1 =>
    rw [hb] at g
    obtain ⟨g1, h4⟩ := g
    refine ⟨enc m[i], ρ1, by rw [w.get i, List.getElem?_map, List.getElem?_eq_getElem hi]; rfl, hb, WR.mono g1 (fun b S2 h => ?_) (fun _ _ _ z => z)⟩
    obtain ⟨rfl, rfl⟩ := h
    have e : m.take (i + 1) = m.take i ++ [m[i]] := by rw [List.take_succ, List.getElem?_eq_getElem hi]; rfl
    have lt : (((m.take i).filter c).map f).length < sizeLine := by
      have a1 := List.length_filter_le c (m.take i)
      simp only [List.length_map, List.length_take] at a1 ⊢
      omega
    by_cases hc : c m[i] = true
    · rw [if_pos hc]
      refine WR.mono (h4 hc) (fun y S3 z => ?_) (fun _ _ _ z => z)
      obtain ⟨rfl, rfl⟩ := z
      refine ⟨lt, ?_, rfl⟩
      rw [e, List.filter_append, List.map_append, List.filter_cons_of_pos hc]
      rfl
    · rw [if_neg hc]
      refine ⟨?_, rfl⟩
      rw [e, List.filter_append, List.map_append, List.filter_cons_of_neg hc]
      simp only [List.filter_nil, List.map_nil, List.append_nil]
  · rintro acc S1 ⟨rfl, rfl⟩
    refine ⟨by rw [w.get]; simp, ?_⟩
    rw [List.take_length]
    exact fin
theorem lc_fm {α : Type} {m : List α} {enc : α → D} {tg : Xp} {cond : Env → Sto → R Bool} {elt : Env → Sto → R D} {ρ : Env} {S : Sto} {Q : List D → Sto → Prop} {E : Nat → List D → Sto → Prop} (c : α → Bool) (f : α → D) (hl : m.length ≤ sizeLine)
    (go : ∀ x ∈ m, optP (bindT tg (enc x) ρ) fun ρ1 => WR (cond ρ1 S) (fun b S2 => b = c x ∧ S2 = S) Eo ∧ (c x = true → WR (elt ρ1 S) (fun y S3 => y = f x ∧ S3 = S) Eo))
    (fin : Q ((m.filter c).map f) S) : WR (lcl (.ds (m.map enc)) tg cond elt ρ (Src.size (.ds (m.map enc)) S + 1) 0 [] S) Q E := lcS_fm walk_ds c f hl go fin
theorem filt_true {α : Type} {l : List α} : l.filter (fun _ => true) = l := by simp
theorem lcS_m {α : Type} {src : Src} {m : List α} {enc : α → D} {tg : Xp} {C : CallSem} {G : Nat → Option D} {elt : Env → Sto → R D} {ρ : Env} {S : Sto} {Q : List D → Sto → Prop} {E : Nat → List D → Sto → Prop} (w : Walk src S (m.map enc)) (f : α → D) (hl : m.length ≤ sizeLine)
    (go : ∀ x ∈ m, optP (bindT tg (enc x) ρ) fun ρ1 => WR (elt ρ1 S) (fun y S3 => y = f x ∧ S3 = S) Eo)
    (fin : Q (m.map f) S) : WR (lcl src tg (fun ρ1 S2 => asT (ev C G (.bl true) ρ1 S2)) elt ρ (Src.size src S + 1) 0 [] S) Q E := by
  refine lcS_fm w (fun _ => true) f hl (fun x hx => ?_) (by rw [filt_true]; exact fin)
  have g := go x hx
  cases hb : bindT tg (enc x) ρ with
  | none => rw [hb] at g; exact g.elim
  | some ρ1 =>
    rw [hb] at g
    exact ⟨⟨rfl, rfl⟩, fun _ => g⟩
theorem lc_m {α : Type} {m : List α} {enc : α → D} {tg : Xp} {C : CallSem} {G : Nat → Option D} {elt : Env → Sto → R D} {ρ : Env} {S : Sto} {Q : List D → Sto → Prop} {E : Nat → List D → Sto → Prop} (f : α → D) (hl : m.length ≤ sizeLine)
    (go : ∀ x ∈ m, optP (bindT tg (enc x) ρ) fun ρ1 => WR (elt ρ1 S) (fun y S3 => y = f x ∧ S3 = S) Eo)
    (fin : Q (m.map f) S) : WR (lcl (.ds (m.map enc)) tg (fun ρ1 S2 => asT (ev C G (.bl true) ρ1 S2)) elt ρ (Src.size (.ds (m.map enc)) S + 1) 0 [] S) Q E := lcS_m walk_ds f hl go fin
theorem lcS_d {src : Src} {l : List D} {tg : Xp} {C : CallSem} {G : Nat → Option D} {elt : Env → Sto → R D} {ρ : Env} {S : Sto} {Q : List D → Sto → Prop} {E : Nat → List D → Sto → Prop} (w : Walk src S l) (f : D → D) (hl : l.length ≤ sizeLine)
    (go : ∀ x ∈ l, optP (bindT tg x ρ) fun ρ1 => WR (elt ρ1 S) (fun y S3 => y = f x ∧ S3 = S) Eo)
    (fin : Q (l.map f) S) : WR (lcl src tg (fun ρ1 S2 => asT (ev C G (.bl true) ρ1 S2)) elt ρ (Src.size src S + 1) 0 [] S) Q E :=
  lcS_m (m := l) (enc := id) (by rw [List.map_id]; exact w) f hl go fin
theorem lc_d {l : List D} {tg : Xp} {C : CallSem} {G : Nat → Option D} {elt : Env → Sto → R D} {ρ : Env} {S : Sto} {Q : List D → Sto → Prop} {E : Nat → List D → Sto → Prop} (f : D → D) (hl : l.length ≤ sizeLine)
    (go : ∀ x ∈ l, optP (bindT tg x ρ) fun ρ1 => WR (elt ρ1 S) (fun y S3 => y = f x ∧ S3 = S) Eo)
    (fin : Q (l.map f) S) : WR (lcl (.ds l) tg (fun ρ1 S2 => asT (ev C G (.bl true) ρ1 S2)) elt ρ (Src.size (.ds l) S + 1) 0 [] S) Q E := lcS_d walk_ds f hl go fin
theorem ws_for_map {α : Type} {m : List α} {f : α → D} {tg : Xp} {b : Env → Sto → Rs} {p : Po} {ρ : Env} {S : Sto} (I : List α → Env → Sto → Prop)
    (go : ∀ d r ρ S, I (d :: r) ρ S → optP (bindT tg (f d) ρ) fun ρ1 => Ws (b ρ1 S) { nx := I r, ct := I r, bk := p.nx, rt := p.rt, ex := p.ex })
    (fin : ∀ ρ S, I [] ρ S → p.nx ρ S) (h : I m ρ S) : Ws (forl (.ds (m.map f)) tg b (Src.size (.ds (m.map f)) S + 1) 0 ρ S) p := by
  refine ws_forl m.length (fun i ρ S => I (m.drop i) ρ S) (fun i ρ S hi z => ?_) (fun ρ S z => ?_) _ 0 ρ S (Nat.zero_le _) (by show _ < 0 + ((m.map f).length + 1); simp) h
  · have e : m.drop i = m[i] :: m.drop (i + 1) := List.drop_eq_getElem_cons hi
    have z' : I (m.drop i) ρ S := z
    rw [e] at z'
    have g := go _ _ ρ S z'
    cases hb : bindT tg (f m[i]) ρ with
    | none => rw [hb] at g; exact g.elim
    | some ρ1 =>
      rw [hb] at g
      exact ⟨f m[i], ρ1, by show some ((m.map f)[i]?) = _; rw [List.getElem?_map, List.getElem?_eq_getElem hi]; rfl, hb, g⟩
  · have z' : I (m.drop m.length) ρ S := z
    rw [List.drop_length] at z'
    exact ⟨by show some ((m.map f)[m.length]?) = _; simp, fin ρ S z'⟩
theorem rd_get {lo : Int} {n i : Nat} (h : i < n) : (rangeD lo n)[i]? = some (.int (lo + (i : Nat))) := by
  rw [rangeD_get, if_pos h]
theorem rangeD_len {lo : Int} {n : Nat} : (rangeD lo n).length = n := by unfold rangeD; simp
theorem ws_range {lo : Int} {m : Nat} {tg : Nat} {b : Env → Sto → Rs} {p : Po} {ρ : Env} {S : Sto} (I : Nat → Env → Sto → Prop)
    (go : ∀ i ρ S, i < m → I i ρ S → Ws (b (ρ.set tg (some (.int (lo + (i : Nat))))) S) { nx := I (i + 1), ct := I (i + 1), bk := p.nx, rt := p.rt, ex := p.ex })
    (fin : ∀ ρ S, I m ρ S → p.nx ρ S) (h : I 0 ρ S) : Ws (forl (.ds (rangeD lo m)) (.var tg) b (Src.size (.ds (rangeD lo m)) S + 1) 0 ρ S) p := by
  refine ws_forl m I (fun i ρ S hi z => ⟨_, _, by show some ((rangeD lo m)[i]?) = _; rw [rd_get hi], rfl, go i ρ S hi z⟩) (fun ρ S z => ⟨by show some ((rangeD lo m)[m]?) = _; rw [List.getElem?_eq_none (by rw [rangeD_len]; omega)], fin ρ S z⟩) _ 0 ρ S (Nat.zero_le _) (by show m < 0 + ((rangeD lo m).length + 1); rw [rangeD_len]; omega) h
theorem s_seq {n : Nat} {C : CallSem} {G : Nat → Option D} {ρ : Env} {S : Sto} {p : Po} {A B : Sx} (I : Env → Sto → Prop) (h1 : Ws (run n C G A ρ S) { p with nx := I }) (h2 : ∀ ρ S, I ρ S → Ws (run n C G B ρ S) p) : Ws (run n C G (.cons A B) ρ S) p := by
  rw [s_cons]
  exact Ws.mono h1 h2 (fun _ _ z => z) (fun _ _ z => z) (fun _ _ z => z) (fun _ _ _ _ z => z)
theorem mt_any {mm : Mt} {n : Nat} {ds xs ys : List D} {r : D} {S : Sto} {Q : D → Sto → Prop} {E : Nat → List D → Sto → Prop} (h : S[n]? = some (.lst ds)) (hm : mtL mm ds xs S = some (r, ys)) : WR (mtD mm (.loc n) xs S) Q E = Q r (S.set n (.lst ys)) := by
  show WR (match S[n]? with
    | some (.lst ds) => mtW n S (mtL mm ds xs S)
    | _ => .bad) Q E = _
  rw [h]
  show WR (mtW n S (mtL mm ds xs S)) Q E = _
  rw [hm]
  rfl
theorem mt_append {n : Nat} {d : D} {ds : List D} {S : Sto} {Q : D → Sto → Prop} {E : Nat → List D → Sto → Prop} (h : S[n]? = some (.lst ds)) : WR (mtD .append (.loc n) [d] S) Q E = (ds.length < sizeLine ∧ Q .non (S.set n (.lst (ds ++ [d])))) := by
  show WR (match S[n]? with
    | some (.lst ds) => mtW n S (mtL .append ds [d] S)
    | _ => .bad) Q E = _
  rw [h]
  show WR (mtW n S (if ds.length < sizeLine then some (.non, ds ++ [d]) else none)) Q E = _
  by_cases c : ds.length < sizeLine
  · rw [if_pos c]
    show Q _ _ = _
    simp [c]
  · rw [if_neg c]
    show False = _
    simp [c]
@[simp ↓] theorem mt_appN {d : D} {ds : List D} {S : Sto} {J : List SO} {Q : D → Sto → Prop} {E : Nat → List D → Sto → Prop} : WR (mtD .append (.loc S.length) [d] (S ++ .lst ds :: J)) Q E = (ds.length < sizeLine ∧ Q .non (S ++ .lst (ds ++ [d]) :: J)) := by
  rw [mt_append new_get, new_set]
theorem isLst_at {n : Nat} {ds : List D} {S : Sto} (h : S[n]? = some (.lst ds)) : isLst (.loc n) S = true := by
  show (lstAt S n).isSome = true
  rw [lst_at h]
  rfl
@[simp] theorem isLst_new {ds : List D} {S : Sto} {J : List SO} : isLst (.loc S.length) (S ++ .lst ds :: J) = true := isLst_at new_get
theorem setIx_at {S : Sto} {n : Nat} {i : Int} {j : Nat} {d : D} {ds : List D} (h : S[n]? = some (.lst ds)) (e : ixN ds.length i = some j) : setIx (.loc n) (.int i) d S = some (S.set n (.lst (ds.set j d))) := by
  show (match S[n]? with
    | some (.lst ds) => (ixN ds.length i).map fun j => S.set n (.lst (ds.set j d))
    | some (.dic kvs) => (kD (.int i)).bind fun k => if kvs.length < sizeLine then some (S.set n (.dic (putA kvs k d))) else none
    | some (.dn kvs) => (kT (.int i)).bind fun k => if kvs.length < sizeLine then some (S.set n (.dn (putA kvs k d))) else none
    | _ => none) = _
  rw [h]
  show (ixN ds.length i).map _ = _
  rw [e]
  rfl
theorem log2_lt {i : Int} {k : Nat} (h0 : 0 ≤ i) (h : i < 2 ^ k) (hk : 0 < k) : i.natAbs.log2 < k := by
  obtain ⟨j, rfl⟩ := Int.eq_ofNat_of_zero_le h0
  have : j < 2 ^ k := by exact_mod_cast h
  rw [Int.natAbs_natCast]
  by_cases z : j = 0
  · subst z; simpa using hk
  · exact (Nat.log2_lt z).mpr this
theorem divOk_of {j : Int} {k : Nat} (h0 : 0 < j) (h : j < 2 ^ k) (hk : k ≤ 9000) : divOk j = true := by
  unfold divOk
  rw [decide_eq_true h0, Bool.true_and]
  have hk0 : 0 < k := by
    rcases Nat.eq_zero_or_pos k with e | e
    · subst e
      have : j < 1 := by simpa using h
      omega
    · exact e
  have := log2_lt (by omega) h hk0
  exact decide_eq_true (by omega)
theorem powOk_of {i j : Int} {k : Nat} (h0 : 0 ≤ i) (h : i < 2 ^ k) (hk : k ≤ 1000) (hk0 : 0 < k) (j0 : 0 ≤ j) (j1 : j ≤ 1000) : powOk i j = true := by
  unfold powOk
  have := log2_lt h0 h hk0
  rw [decide_eq_true j0, decide_eq_true j1]
  exact decide_eq_true (by omega)
theorem mulOk_of {i j : Int} {k l : Nat} (h0 : 0 ≤ i) (h : i < 2 ^ k) (hk : 0 < k) (g0 : 0 ≤ j) (g : j < 2 ^ l) (hl : 0 < l) (hkl : k + l ≤ 1000000) : mulOk i j = true := by
  unfold mulOk
  have a1 := log2_lt h0 h hk
  have a2 := log2_lt g0 g hl
  exact decide_eq_true (by omega)
theorem small62_of {i : Int} (h0 : 0 ≤ i) (h1 : i < 2 ^ 62) : small62 i = true := by
  unfold small62
  rw [decide_eq_true h1, decide_eq_true (by omega)]
  rfl
theorem atI_of {α : Type} {xs : List α} {i : Int} (h0 : 0 ≤ i) (h : i.toNat < xs.length) : atI xs i = some xs[i.toNat] := by
  obtain ⟨j, rfl⟩ := Int.eq_ofNat_of_zero_le h0
  exact atI_nat (List.getElem?_eq_getElem h)
theorem intsOf_map {α : Type} {f : α → Int} : ∀ l : List α, intsOf (l.map fun d => .int (f d)) = some (l.map f)
  | [] => rfl
  | d :: l => by
    show (intsOf (l.map _)).map _ = _
    rw [intsOf_map l]
    rfl
theorem blsOf_map {α : Type} {f : α → Bool} : ∀ l : List α, blsOf (l.map fun d => .bl (f d)) = some (l.map f)
  | [] => rfl
  | d :: l => by
    show (blsOf (l.map _)).map _ = _
    rw [blsOf_map l]
    rfl
theorem cut1 {α : Type} {l : List α} : cut l (some 1) none = l.tail := by
  unfold cut
  have e1 : HT.sIx l.length 0 (some 1) = min 1 l.length := by
    unfold HT.sIx
    simp
  have e2 : HT.sIx l.length l.length none = l.length := rfl
  rw [e1, e2]
  cases l with
  | nil => rfl
  | cons x r => simp
end CC
namespace CC
open PySem PySem.Spec PyProof.Rows L2
section
variable {k : Nat} {v : D} {S : Sto} {Q : D → Sto → Prop} {E : Nat → List D → Sto → Prop}
def isIB : D → Bool
  | .int _ => true
  | .bl _ => true
  | _ => false
def isBB : D → Bool
  | .bl _ => true
  | _ => false
def isSB : D → Bool
  | .str _ => true
  | _ => false
def isTB : D → Bool
  | .tup _ => true
  | _ => false
def isLB (v : D) (S : Sto) : Bool := match v with
  | .fl _ => true
  | .loc n => match S[n]? with
    | some (.lst _) => true
    | _ => false
  | _ => false
theorem isi_of {t b : String} (h : tyOfD v S = some t) (hk : knownTy b = true) : isinst v (.ty b) S = some (subTy t b) := by
  unfold isinst isT
  rw [h]
  simp [hk]
theorem isi_int (hv : (tyOfD v S).isSome = true) : isinst v (.ty "int") S = some (isIB v) := by
  obtain ⟨t, ht⟩ := Option.isSome_iff_exists.mp hv
  rw [isi_of ht (by decide +kernel)]
  cases v with
  | loc n =>
    have e : tyOfD (.loc n) S = match S[n]? with
      | some (.lst _) => some "list"
      | some (.dic _) => some "dict"
      | _ => none := rfl
    rw [e] at ht
    split at ht <;> cases ht <;> (first | (show _ = some true; decide +kernel) | (show _ = some false; decide +kernel))
  | _ => first | (cases ht; done) | (cases ht; first | (show _ = some true; decide +kernel) | (show _ = some false; decide +kernel))
theorem isi_bool (hv : (tyOfD v S).isSome = true) : isinst v (.ty "bool") S = some (isBB v) := by
  obtain ⟨t, ht⟩ := Option.isSome_iff_exists.mp hv
  rw [isi_of ht (by decide +kernel)]
  cases v with
  | loc n =>
    have e : tyOfD (.loc n) S = match S[n]? with
      | some (.lst _) => some "list"
      | some (.dic _) => some "dict"
      | _ => none := rfl
    rw [e] at ht
    split at ht <;> cases ht <;> (first | (show _ = some true; decide +kernel) | (show _ = some false; decide +kernel))
  | _ => first | (cases ht; done) | (cases ht; first | (show _ = some true; decide +kernel) | (show _ = some false; decide +kernel))
theorem isi_str (hv : (tyOfD v S).isSome = true) : isinst v (.ty "str") S = some (isSB v) := by
  obtain ⟨t, ht⟩ := Option.isSome_iff_exists.mp hv
  rw [isi_of ht (by decide +kernel)]
  cases v with
  | loc n =>
    have e : tyOfD (.loc n) S = match S[n]? with
      | some (.lst _) => some "list"
      | some (.dic _) => some "dict"
      | _ => none := rfl
    rw [e] at ht
    split at ht <;> cases ht <;> (first | (show _ = some true; decide +kernel) | (show _ = some false; decide +kernel))
  | _ => first | (cases ht; done) | (cases ht; first | (show _ = some true; decide +kernel) | (show _ = some false; decide +kernel))
theorem isi_tuple (hv : (tyOfD v S).isSome = true) : isinst v (.ty "tuple") S = some (isTB v) := by
  obtain ⟨t, ht⟩ := Option.isSome_iff_exists.mp hv
  rw [isi_of ht (by decide +kernel)]
  cases v with
  | loc n =>
    have e : tyOfD (.loc n) S = match S[n]? with
      | some (.lst _) => some "list"
      | some (.dic _) => some "dict"
      | _ => none := rfl
    rw [e] at ht
    split at ht <;> cases ht <;> (first | (show _ = some true; decide +kernel) | (show _ = some false; decide +kernel))
  | _ => first | (cases ht; done) | (cases ht; first | (show _ = some true; decide +kernel) | (show _ = some false; decide +kernel))
theorem isi_list (hv : (tyOfD v S).isSome = true) : isinst v (.ty "list") S = some (isLB v S) := by
  obtain ⟨t, ht⟩ := Option.isSome_iff_exists.mp hv
  rw [isi_of ht (by decide +kernel)]
  cases v with
  | loc n =>
    have e : tyOfD (.loc n) S = match S[n]? with
      | some (.lst _) => some "list"
      | some (.dic _) => some "dict"
      | _ => none := rfl
    have e2 : isLB (.loc n) S = match S[n]? with
      | some (.lst _) => true
      | _ => false := rfl
    rw [e] at ht
    rw [e2]
    split at ht <;> rename_i q <;> cases ht <;> rw [q] <;> (first | (show _ = some true; decide +kernel) | (show _ = some false; decide +kernel))
  | _ => first | (cases ht; done) | (cases ht; first | (show _ = some true; decide +kernel) | (show _ = some false; decide +kernel))
def Nice : Nat → D → Sto → Prop
  | 0, _, _ => True
  | n + 1, v, S => (tyOfD v S).isSome = true ∧ ∀ ds, v = .tup ds → ds.length ≤ sizeLine ∧ ∀ d ∈ ds, Nice n d S
theorem Nice.le {S : Sto} : ∀ {n m : Nat} {v : D}, Nice n v S → m ≤ n → Nice m v S
  | _, 0, _, _, _ => trivial
  | 0, m + 1, _, _, h => absurd h (by omega)
  | n + 1, m + 1, v, ⟨h1, h2⟩, h => ⟨h1, fun ds e => ⟨(h2 ds e).1, fun d hd => ((h2 ds e).2 d hd).le (by omega)⟩⟩
def isIntD (v : D) (low : Int) : Bool := match v with
  | .int i => decide (low ≤ i)
  | _ => false
def isRunD (a b : Str) (v : D) : Bool := match v with
  | .tup [.str d, c] => (d == a || d == b) && isIntD c 1
  | _ => false
theorem isRunD_len {a b : Str} {ds : List D} (h : ds.length ≠ 2) : isRunD a b (.tup ds) = false := by
  unfold isRunD
  split
  · rename_i e
    cases e
    exact absurd rfl h
  · rfl
theorem inSeq2 {d a b : Str} : inSeq (.str d) [.str a, .str b] = some (d == a || d == b) := by
  have h1 : (a == d) = (d == a) := by rw [Bool.eq_iff_iff, beq_iff_eq, beq_iff_eq]; exact eq_comm
  have h2 : (b == d) = (d == b) := by rw [Bool.eq_iff_iff, beq_iff_eq, beq_iff_eq]; exact eq_comm
  rw [← h1, ← h2]
  simp [inSeq, flatD, feq]
def fstS : D → Str
  | .tup (.str a :: _) => a
  | _ => ""
def areRunsD (a b : Str) (v : D) : Bool := match v with
  | .tup l => !l.isEmpty && l.all (isRunD a b) && (l.zip l.tail).all fun p => fstS p.1 != fstS p.2
  | _ => false
theorem isRunD_str {a b : Str} {v : D} (h : isRunD a b v = true) : ∃ d c, v = .tup [.str d, c] ∧ fstS v = d := by
  unfold isRunD at h
  split at h
  · exact ⟨_, _, rfl, rfl⟩
  · cases h
theorem zipRuns {a b : Str} {l : List D} (hr : l.all (isRunD a b) = true) {p : D × D} (hp : p ∈ l.zip l.tail) : isRunD a b p.1 = true ∧ isRunD a b p.2 = true := by
  obtain ⟨h1, h2⟩ := List.of_mem_zip (a := p.1) (b := p.2) hp
  exact ⟨List.all_eq_true.mp hr _ h1, List.all_eq_true.mp hr _ (List.mem_of_mem_tail h2)⟩
abbrev Runs := List (Str × Int)
def encP (p : Str × Int) : D := .tup [.str p.1, .int p.2]
def encR (l : Runs) : D := .tup (l.map encP)
def encC (a b : Runs) : D := .tup [encR a, encR b]
def total (l : Runs) : Int := (l.map (·.2)).sum
def ascR (l : Runs) : Bool := (l.zip l.tail).all fun p => p.1.1 != p.2.1
def okR (a b : Str) (l : Runs) : Bool := !l.isEmpty && l.all (fun p => (p.1 == a || p.1 == b) && decide (1 ≤ p.2)) && ascR l
theorem areRuns_enc {a b : Str} {l : Runs} : areRunsD a b (encR l) = okR a b l := by
  unfold encR areRunsD okR ascR
  simp only [List.isEmpty_map, List.all_map]
  congr 1
  rw [← List.map_tail, List.zip_map, List.all_map]
  rfl
def isCityD (v : D) : Bool := match v with
  | .tup [x, y] => areRunsD "E" "W" x && areRunsD "N" "S" y
  | _ => false
theorem isCityD_len {ds : List D} (h : ds.length ≠ 2) : isCityD (.tup ds) = false := by
  unfold isCityD
  split
  · rename_i e
    cases e
    exact absurd rfl h
  · rfl
theorem two_of {ds : List D} (h : ((ds.length : Nat) : Int) = 2) : ∃ x y, ds = [x, y] := by
  match ds, h with
  | [x, y], _ => exact ⟨x, y, rfl⟩
  | [], h => simp at h
  | [_], h => simp at h
  | _ :: _ :: _ :: r, h => simp only [List.length_cons] at h; omega
def runAt : Runs → Int → Int → Option (Str × Int × Int)
  | [], _, _ => none
  | (d, c) :: r, n, f => if n < f + c then some (d, f, f + c - 1) else runAt r n (f + c)
def encRun : Option (Str × Int × Int) → D
  | none => .non
  | some (d, a, b) => .tup [.str d, .int a, .int b]
structure Town (a b : Runs) : Prop where
  oa : okR "E" "W" a = true
  ob : okR "N" "S" b = true
  la : a.length ≤ sizeLine
  lb : b.length ≤ sizeLine
theorem nice_encP {p : Str × Int} : Nice 2 (encP p) S := ⟨rfl, fun ds e => by
  cases e
  refine ⟨by simp [sizeLine], fun d hd => ?_⟩
  simp at hd
  rcases hd with rfl | rfl
  · exact ⟨rfl, fun _ e => nomatch e⟩
  · exact ⟨rfl, fun _ e => nomatch e⟩⟩
theorem nice_encR {l : Runs} (h : l.length ≤ sizeLine) : Nice 3 (encR l) S := ⟨rfl, fun ds e => by
  cases e
  refine ⟨by simpa using h, fun d hd => ?_⟩
  obtain ⟨p, _, rfl⟩ := List.mem_map.mp hd
  exact nice_encP⟩
theorem Town.nice {a b : Runs} (t : Town a b) : Nice 4 (encC a b) S := ⟨rfl, fun ds e => by
  cases e
  refine ⟨by simp [sizeLine], fun d hd => ?_⟩
  simp at hd
  rcases hd with rfl | rfl
  · exact nice_encR t.la
  · exact nice_encR t.lb⟩
theorem Town.city {a b : Runs} (t : Town a b) : isCityD (encC a b) = true := by
  show (areRunsD "E" "W" (encR a) && areRunsD "N" "S" (encR b)) = true
  rw [areRuns_enc, areRuns_enc, t.oa, t.ob]
  rfl
def signAt (l : Runs) (n : Int) : Str := ((runAt l n 0).map (·.1)).getD ""
theorem runAt_some : ∀ {l : Runs} {n f : Int}, f ≤ n → n < f + total l → ∃ r, runAt l n f = some r
  | [], n, f, h1, h2 => by simp [total] at h2; omega
  | (d, c) :: l, n, f, h1, h2 => by
    rw [runAt]
    by_cases e : n < f + c
    · rw [if_pos e]
      exact ⟨_, rfl⟩
    · rw [if_neg e]
      have e2 : total ((d, c) :: l) = c + total l := by simp [total]
      exact runAt_some (by omega) (by omega)
def cl : Nat → D → Bool
  | _, .non => true
  | _, .int _ => true
  | _, .str x => PyData.strOk x
  | n + 1, .tup ds => ds.all (cl n)
  | n + 1, .fl ds => ds.all (cl n)
  | _, _ => false
def pd : Nat → D → PyData
  | _, .int i => .int i
  | _, .str x => .str x
  | n + 1, .tup ds => .tuple (ds.map (pd n))
  | n + 1, .fl ds => .list (ds.map (pd n))
  | _, _ => .none
theorem mapM_some {α β γ : Type} {g : β → Option γ} {f : α → β} {h : α → γ} : ∀ {l : List α}, (∀ x ∈ l, g (f x) = some (h x)) → (l.map f).mapM g = some (l.map h)
  | [], _ => rfl
  | x :: l, H => by
    rw [List.map_cons, List.mapM_cons, H x List.mem_cons_self, mapM_some fun y hy => H y (List.mem_cons_of_mem _ hy)]
    rfl
theorem mapM_some' {β γ : Type} {g : β → Option γ} {h : β → γ} {l : List β} (H : ∀ x ∈ l, g x = some (h x)) : l.mapM g = some (l.map h) := by
  have := mapM_some (f := id) (l := l) H
  simpa using this
theorem cl_P : ∀ {n m : Nat} {v : D}, cl n v = true → n ≤ m → toP S m v = some (pd n v)
  | n, m, .non, _, _ => by cases n <;> cases m <;> rfl
  | n, m, .int _, _, _ => by cases n <;> cases m <;> rfl
  | n, m, .str _, _, _ => by cases n <;> cases m <;> rfl
  | n, m, .bl _, h, _ => by cases n <;> cases h
  | n, m, .loc _, h, _ => by cases n <;> cases h
  | n, m, .ty _, h, _ => by cases n <;> cases h
  | n, m, .fn _, h, _ => by cases n <;> cases h
  | n, m, .exn _ _, h, _ => by cases n <;> cases h
  | n, m, .cls _, h, _ => by cases n <;> cases h
  | n, m, .fd _ _, h, _ => by cases n <;> cases h
  | n, m, .fm _ _, h, _ => by cases n <;> cases h
  | n, m, .bd _, h, _ => by cases n <;> cases h
  | 0, m, .tup _, h, _ => by cases h
  | 0, m, .fl _, h, _ => by cases h
  | n + 1, 0, .tup _, _, hm => absurd hm (by omega)
  | n + 1, 0, .fl _, _, hm => absurd hm (by omega)
  | n + 1, m + 1, .tup ds, h, hm => by
    have h' : ds.all (cl n) = true := h
    show (ds.mapM (toP S m)).map PyData.tuple = some (.tuple (ds.map (pd n)))
    rw [mapM_some' fun d hd => cl_P (List.all_eq_true.mp h' d hd) (by omega)]
    rfl
  | n + 1, m + 1, .fl ds, h, hm => by
    have h' : ds.all (cl n) = true := h
    show (ds.mapM (toP S m)).map PyData.list = some (.list (ds.map (pd n)))
    rw [mapM_some' fun d hd => cl_P (List.all_eq_true.mp h' d hd) (by omega)]
    rfl
theorem clL_lay (n : Nat) (ih : ∀ v, cl n v = true → (pd n v).canLay0 = true ∧ (pd n v).depth ≤ n) : ∀ {ds : List D}, (∀ d ∈ ds, cl n d = true) → PyData.canLayAll0 (ds.map (pd n)) = true ∧ PyData.depthAll (ds.map (pd n)) ≤ n
  | [], _ => ⟨rfl, Nat.zero_le _⟩
  | d :: ds, h => by
    obtain ⟨h1, h2⟩ := ih d (h d List.mem_cons_self)
    obtain ⟨h3, h4⟩ := clL_lay n ih fun e he => h e (List.mem_cons_of_mem _ he)
    refine ⟨?_, ?_⟩
    · rw [List.map_cons, PyData.canLayAll0, h1, h3]
      rfl
    · rw [List.map_cons, PyData.depthAll]
      omega
theorem cl_lay : ∀ (n : Nat) (v : D), cl n v = true → (pd n v).canLay0 = true ∧ (pd n v).depth ≤ n
  | n, .non, _ => by cases n <;> exact ⟨rfl, Nat.zero_le _⟩
  | n, .int _, _ => by cases n <;> exact ⟨rfl, Nat.zero_le _⟩
  | n, .str x, h => by
    have e : PyData.strOk x = true := by cases n <;> exact h
    cases n <;> exact ⟨e, Nat.zero_le _⟩
  | n, .bl _, h => by cases n <;> cases h
  | n, .loc _, h => by cases n <;> cases h
  | n, .ty _, h => by cases n <;> cases h
  | n, .fn _, h => by cases n <;> cases h
  | n, .exn _ _, h => by cases n <;> cases h
  | n, .cls _, h => by cases n <;> cases h
  | n, .fd _ _, h => by cases n <;> cases h
  | n, .fm _ _, h => by cases n <;> cases h
  | n, .bd _, h => by cases n <;> cases h
  | 0, .tup _, h => by cases h
  | 0, .fl _, h => by cases h
  | n + 1, .tup ds, h => by
    have h' : ds.all (cl n) = true := h
    obtain ⟨h1, h2⟩ := clL_lay n (cl_lay n) (ds := ds) fun d hd => List.all_eq_true.mp h' d hd
    exact ⟨h1, by show PyData.depth (.tuple (ds.map (pd n))) ≤ n + 1; rw [PyData.depth]; omega⟩
  | n + 1, .fl ds, h => by
    have h' : ds.all (cl n) = true := h
    obtain ⟨h1, h2⟩ := clL_lay n (cl_lay n) (ds := ds) fun d hd => List.all_eq_true.mp h' d hd
    exact ⟨h1, by show PyData.depth (.list (ds.map (pd n))) ≤ n + 1; rw [PyData.depth]; omega⟩
theorem cl_shaped {n : Nat} {v : D} (h : cl n v = true) (hn : n ≤ 64) : SeqAt.shaped (pd n v) = true := by
  obtain ⟨h1, h2⟩ := cl_lay n v h
  unfold SeqAt.shaped
  rw [h1]
  exact decide_eq_true (by omega)
theorem clL_eq (n m : Nat) (ih : ∀ x y, cl n x = true → cl m y = true → (PyData.eqv (pd n x) (pd m y) = true ↔ x = y)) : ∀ {a b : List D}, (∀ d ∈ a, cl n d = true) → (∀ d ∈ b, cl m d = true) → (PyData.eqvAll (a.map (pd n)) (b.map (pd m)) = true ↔ a = b)
  | [], [], _, _ => by simp [PyData.eqvAll]
  | [], _ :: _, _, _ => by simp [PyData.eqvAll]
  | _ :: _, [], _, _ => by simp [PyData.eqvAll]
  | x :: a, y :: b, h1, h2 => by
    have i1 := ih x y (h1 x List.mem_cons_self) (h2 y List.mem_cons_self)
    have i2 := clL_eq n m ih (a := a) (b := b) (fun e he => h1 e (List.mem_cons_of_mem _ he)) (fun e he => h2 e (List.mem_cons_of_mem _ he))
    rw [List.map_cons, List.map_cons, PyData.eqvAll, Bool.and_eq_true, i1, i2, List.cons.injEq]
theorem cl_eq : ∀ (n m : Nat) (x y : D), cl n x = true → cl m y = true → (PyData.eqv (pd n x) (pd m y) = true ↔ x = y)
  | 0, m, x, y, h1, h2 => by
    cases x <;> first | (cases h1; done) | skip
    all_goals (cases m <;> cases y <;> first | (cases h2; done) | simp [pd, PyData.eqv])
  | n + 1, 0, x, y, h1, h2 => by
    cases y <;> first | (cases h2; done) | skip
    all_goals (cases x <;> first | (cases h1; done) | simp [pd, PyData.eqv])
  | n + 1, m + 1, x, y, h1, h2 => by
    cases x with
    | tup a =>
      cases y with
      | tup b =>
        have h1' : a.all (cl n) = true := h1
        have h2' : b.all (cl m) = true := h2
        show PyData.eqvAll _ _ = true ↔ _
        rw [clL_eq n m (cl_eq n m) (fun d hd => List.all_eq_true.mp h1' d hd) (fun d hd => List.all_eq_true.mp h2' d hd)]
        simp
      | _ => first | (cases h2; done) | simp [pd, PyData.eqv]
    | fl a =>
      cases y with
      | fl b =>
        have h1' : a.all (cl n) = true := h1
        have h2' : b.all (cl m) = true := h2
        show PyData.eqvAll _ _ = true ↔ _
        rw [clL_eq n m (cl_eq n m) (fun d hd => List.all_eq_true.mp h1' d hd) (fun d hd => List.all_eq_true.mp h2' d hd)]
        simp
      | _ => first | (cases h2; done) | simp [pd, PyData.eqv]
    | _ => first | (cases h1; done) | (cases y <;> first | (cases h2; done) | simp [pd, PyData.eqv])
theorem eqD_cl {n m : Nat} {x y : D} {b : Bool} (hx : cl n x = true) (hy : cl m y = true) (hn : n ≤ 50) (hm : m ≤ 50) (hb : b = true ↔ x = y) : eqD x y S = some b := by
  unfold eqD
  rw [cl_P hx hn, cl_P hy hm]
  show (if SeqAt.shaped (pd n x) && SeqAt.shaped (pd m y) then some (PyData.eqv (pd n x) (pd m y)) else none) = _
  rw [cl_shaped hx (by omega), cl_shaped hy (by omega)]
  show some _ = some b
  congr 1
  rw [Bool.eq_iff_iff, hb]
  exact cl_eq n m x y hx hy
theorem qEq_cl {n m : Nat} {x y : D} {b : Bool} (hx : cl n x = true) (hy : cl m y = true) (hn : n ≤ 50) (hm : m ≤ 50) (hb : b = true ↔ x = y) : qEq x y S = some b := by
  have e := eqD_cl (S := S) hx hy hn hm hb
  unfold qEq
  split
  · congr 1
    rw [Bool.eq_iff_iff, hb]
    simp
  · congr 1
    rw [Bool.eq_iff_iff, hb]
    simp
  · rw [e]
theorem eq_cl {n m : Nat} {x y : D} {b : Bool} (hx : cl n x = true) (hy : cl m y = true) (hn : n ≤ 50) (hm : m ≤ 50) (hb : b = true ↔ x = y) : cmpD .Eq x y S = some b := qEq_cl hx hy hn hm hb
theorem ne_cl {n m : Nat} {x y : D} {b : Bool} (hx : cl n x = true) (hy : cl m y = true) (hn : n ≤ 50) (hm : m ≤ 50) (hb : b = true ↔ x ≠ y) : cmpD .NotEq x y S = some b := by
  show (qEq x y S).map _ = _
  rw [qEq_cl (b := !b) hx hy hn hm (by rw [Bool.not_eq_true', ← Bool.not_eq_true, hb]; simp)]
  simp
theorem inDeep_cl {n m : Nat} {x y : D} {l : List D} {b : Bool} (hx : cl n x = true) (hy : ∀ S, toP S 50 y = toP S 50 (.fl l)) (hl : ∀ d ∈ l, cl m d = true) (hn : n ≤ 50) (hm : m < 50) (hb : b = true ↔ x ∈ l) : inDeep x y S = some b := by
  have hy' : cl (m + 1) (.fl l) = true := List.all_eq_true.mpr hl
  unfold inDeep
  rw [cl_P hx hn, hy S, cl_P hy' (by omega)]
  show (if SeqAt.shaped (pd n x) && SeqAt.shaped (pd (m + 1) (.fl l)) then some ((l.map (pd m)).any fun z => PyData.eqv z (pd n x)) else none) = _
  rw [cl_shaped hx (by omega), cl_shaped hy' (by omega)]
  show some _ = some b
  congr 1
  rw [Bool.eq_iff_iff, hb, List.any_map, List.any_eq_true]
  constructor
  · rintro ⟨d, hd, e⟩
    have := (cl_eq m n d x (hl d hd) hx).mp e
    rw [← this]
    exact hd
  · intro h
    exact ⟨x, h, (cl_eq m n x x (hl x h) hx).mpr rfl⟩
theorem in_cl {n m : Nat} {x : D} {l : List D} {b : Bool} (hx : cl n x = true) (hl : ∀ d ∈ l, cl m d = true) (hn : n ≤ 50) (hm : m < 50) (hb : b = true ↔ x ∈ l) : inD x (.fl l) S = some b :=
  inDeep_cl hx (fun _ => rfl) hl hn hm hb
theorem in_loc {n m q : Nat} {x : D} {l : List D} {b : Bool} (hq : S[q]? = some (.lst l)) (hx : cl n x = true) (hl : ∀ d ∈ l, cl m d = true) (hn : n ≤ 50) (hm : m < 50) (hb : b = true ↔ x ∈ l) : inD x (.loc q) S = some b := by
  show (match dicAt S q with
    | some kvs => (kD x).map fun k => (valA kvs k).isSome
    | none => match dnAt S q with
      | some kvs => (kT x).map fun k => (valA kvs k).isSome
      | none => inDeep x (.loc q) S) = _
  have e : dicAt S q = none := by unfold dicAt; rw [hq]
  have e' : dnAt S q = none := by unfold dnAt; rw [hq]
  rw [e, e']
  have hy' : cl (m + 1) (.fl l) = true := List.all_eq_true.mpr hl
  show inDeep x (.loc q) S = _
  unfold inDeep
  have e2 : toP S 50 (.loc q) = toP S 50 (.fl l) := by
    show (lstAt S q).bind _ = _
    rw [lst_at hq]
    rfl
  rw [e2]
  exact inDeep_cl (y := .fl l) hx (fun _ => rfl) hl hn hm hb
variable {P : Sto → Prop}
def Rw (P : Sto → Prop) (n w : Nat) (v : D) : Prop := ∃ p : PyData, (∀ (S : Sto) (m : Nat), P S → n ≤ m → toQ S m v = some p) ∧ p.showable = true ∧ dic0 p = true ∧ p.depth ≤ n ∧ shB p ≤ w
theorem Rw.le {n m w x : Nat} (h : Rw P n w v) (hn : n ≤ m) (hw : w ≤ x) : Rw P m x v := by
  obtain ⟨p, h1, h2, h3, h4, h5⟩ := h
  exact ⟨p, fun S j hS hj => h1 S j hS (by omega), h2, h3, by omega, by omega⟩
theorem Rw_int {n w : Nat} {i : Int} (hi : i.natAbs.log2 < 1900) (hw : i.natAbs.log2 + 3 ≤ w) : Rw P n w (.int i) := ⟨.int i, fun S m _ _ => by cases m <;> rfl, decide_eq_true (by omega), rfl, Nat.zero_le _, hw⟩
theorem Rw_str {n w : Nat} {x : Str} (hw : (reprText x).length ≤ w) : Rw P n w (.str x) := ⟨.str x, fun S m _ _ => by cases m <;> rfl, rfl, rfl, Nat.zero_le _, hw⟩
theorem RwL {n w : Nat} : ∀ {ds : List D}, (∀ d ∈ ds, Rw P n w d) → ∃ ps : List PyData, (∀ (S : Sto) (m : Nat), P S → n ≤ m → ds.mapM (toQ S m) = some ps) ∧ PyData.showableAll ps = true ∧ dic0s ps = true ∧ PyData.depthAll ps ≤ n ∧ shBs ps ≤ ds.length * (w + 2)
  | [], _ => ⟨[], fun _ _ _ _ => by rw [List.mapM_nil]; rfl, rfl, rfl, Nat.zero_le _, by simp [shBs]⟩
  | d :: ds, h => by
    obtain ⟨p, p1, p2, p3, p4, p5⟩ := h d List.mem_cons_self
    obtain ⟨ps, q1, q2, q3, q4, q5⟩ := RwL fun e he => h e (List.mem_cons_of_mem _ he)
    refine ⟨p :: ps, fun S m hS hm => ?_, by simp only [PyData.showableAll, p2, q2, Bool.and_self], by simp only [dic0s, p3, q3, Bool.and_self], by simp only [PyData.depthAll]; omega, ?_⟩
    · rw [List.mapM_cons, p1 S m hS hm, q1 S m hS hm]
      rfl
    · simp only [shBs, List.length_cons, Nat.add_mul]
      omega
theorem Rw_tup {n w x : Nat} {ds : List D} (h : ∀ d ∈ ds, Rw P n w d) (hx : ds.length * (w + 2) + 3 ≤ x) : Rw P (n + 1) x (.tup ds) := by
  obtain ⟨ps, q1, q2, q3, q4, q5⟩ := RwL h
  refine ⟨.tuple ps, fun S m hS hm => ?_, by simpa only [PyData.showable] using q2, by simpa only [dic0] using q3, by simp only [PyData.depth]; omega, by simp only [shB]; omega⟩
  cases m with
  | zero => omega
  | succ m =>
    show (ds.mapM (toQ S m)).map PyData.tuple = _
    rw [q1 S m hS (by omega)]
    rfl
theorem Rw_fl {n w x : Nat} {ds : List D} (h : ∀ d ∈ ds, Rw P n w d) (hx : ds.length * (w + 2) + 3 ≤ x) : Rw P (n + 1) x (.fl ds) := by
  obtain ⟨ps, q1, q2, q3, q4, q5⟩ := RwL h
  refine ⟨.list ps, fun S m hS hm => ?_, by simpa only [PyData.showable] using q2, by simpa only [dic0] using q3, by simp only [PyData.depth]; omega, by simp only [shB]; omega⟩
  cases m with
  | zero => omega
  | succ m =>
    show (ds.mapM (toQ S m)).map PyData.list = _
    rw [q1 S m hS (by omega)]
    rfl
theorem Rw_loc {n w x m : Nat} {ds : List D} (hm : ∀ S, P S → lstAt S m = some ds) (h : ∀ d ∈ ds, Rw P n w d) (hx : ds.length * (w + 2) + 3 ≤ x) : Rw P (n + 1) x (.loc m) := by
  obtain ⟨ps, q1, q2, q3, q4, q5⟩ := RwL h
  refine ⟨.list ps, fun S j hS hj => ?_, by simpa only [PyData.showable] using q2, by simpa only [dic0] using q3, by simp only [PyData.depth]; omega, by simp only [shB]; omega⟩
  cases j with
  | zero => omega
  | succ j =>
    show (match lstAt S m with
      | some ds => (ds.mapM (toQ S j)).map PyData.list
      | none => match dicAt S m with
        | some [] => some (.dict [])
        | _ => none) = _
    rw [hm S hS]
    simp only [q1 S j hS (by omega)]
    rfl
theorem Rw.rep {n w : Nat} (h : Rw P n w v) (hn : n ≤ 50) (hw : w ≤ sizeLine) : ∃ t : Str, ∀ S, P S → repD v S = some (.str t) := by
  obtain ⟨p, h1, h2, h3, h4, h5⟩ := h
  refine ⟨p.shown, fun S hS => ?_⟩
  unfold repD
  rw [h1 S 50 hS hn]
  show (if repOk p = true then _ else _) = _
  rw [if_pos]
  unfold repOk
  simp only [h2, h3, Bool.and_self, Bool.true_and, Bool.and_eq_true, decide_eq_true_eq]
  exact ⟨by omega, by omega⟩
theorem ascR_cons {x y : Str × Int} {l : Runs} : ascR (x :: y :: l) = (x.1 != y.1 && ascR (y :: l)) := by
  simp [ascR]
def AltR (a b : Str) (s : Int) (l : Runs) : Prop := ∀ j p, l[j]? = some p → p.1 = if (s + (j : Nat)) % 2 = 0 then a else b
def BndR (B : Int) (l : Runs) : Prop := ∀ p ∈ l, 1 ≤ p.2 ∧ p.2 ≤ B
theorem BndR.add {B : Int} {l : Runs} {p : Str × Int} (h : BndR B l) (h1 : 1 ≤ p.2) (h2 : p.2 ≤ B) : BndR B (l ++ [p]) := by
  intro q hq
  rcases List.mem_append.mp hq with z | z
  · exact h q z
  · rw [List.mem_singleton.mp z]
    exact ⟨h1, h2⟩
theorem AltR.add {a b : Str} {s : Int} {l : Runs} {p : Str × Int} (h : AltR a b s l) (e : p.1 = if (s + (l.length : Nat)) % 2 = 0 then a else b) : AltR a b s (l ++ [p]) := by
  intro j q hq
  by_cases hj : j < l.length
  · rw [List.getElem?_append_left hj] at hq
    exact h j q hq
  · rw [List.getElem?_append_right (by omega)] at hq
    have : j = l.length := by
      have := (List.getElem?_eq_some_iff.mp hq).1
      simp at this
      omega
    subst this
    simp at hq
    subst hq
    exact e
theorem ascR_alt {a b : Str} (hab : a ≠ b) : ∀ {l : Runs} {s : Int}, AltR a b s l → ascR l = true
  | [], _, _ => rfl
  | [_], _, _ => rfl
  | x :: y :: l, s, h => by
    rw [ascR_cons]
    have h0 := h 0 x rfl
    have h1 := h 1 y rfl
    have h2 : ascR (y :: l) = true := ascR_alt hab (s := s + 1) fun j p e => by
      have := h (j + 1) p e
      rw [this]
      have e2 : s + ((j + 1 : Nat) : Int) = s + 1 + (j : Nat) := by omega
      rw [e2]
    rw [h2, Bool.and_true, bne_iff_ne, h0, h1]
    split <;> split
    · omega
    · exact hab
    · exact hab.symm
    · omega
structure TownB (a b : Runs) : Prop where
  oa : okR "E" "W" a = true
  ob : okR "N" "S" b = true
  la : a.length ≤ 20
  lb : b.length ≤ 20
  ba : BndR (10 ^ 30) a
  bb : BndR (10 ^ 30) b
theorem TownB.town {a b : Runs} (t : TownB a b) : Town a b := ⟨t.oa, t.ob, by have := t.la; unfold sizeLine; omega, by have := t.lb; unfold sizeLine; omega⟩
theorem okR_mem {a b : Str} {l : Runs} (h : okR a b l = true) {p : Str × Int} (hp : p ∈ l) : (p.1 = a ∨ p.1 = b) ∧ 1 ≤ p.2 := by
  unfold okR at h
  simp only [Bool.and_eq_true] at h
  have := List.all_eq_true.mp h.1.2 p hp
  simpa using this
def letter (x : Str) : Prop := x = "E" ∨ x = "W" ∨ x = "N" ∨ x = "S"
theorem total_cons {p : Str × Int} {l : Runs} : total (p :: l) = p.2 + total l := by simp [total]
def signL : Runs → Int → Str
  | [], _ => ""
  | (d, c) :: r, n => if n < c then d else signL r (n - c)
theorem signL_at : ∀ {l : Runs} {n f : Int}, ((runAt l n f).map fun r => r.1).getD ("" : Str) = signL l (n - f)
  | [], n, f => rfl
  | (d, c) :: l, n, f => by
    rw [runAt, signL]
    by_cases e : n < f + c
    · rw [if_pos e, if_pos (by omega)]
      rfl
    · rw [if_neg e, if_neg (by omega), signL_at]
      congr 1
      omega
theorem signAt_eq {l : Runs} {n : Int} : signAt l n = signL l n := by
  unfold signAt
  rw [signL_at]
  congr 1
  omega
theorem runAt_mem {a b : Str} : ∀ {l : Runs} {n : Int}, (∀ p ∈ l, p.1 = a ∨ p.1 = b) → 0 ≤ n → n < total l → signL l n = a ∨ signL l n = b
  | [], n, _, h1, h2 => by simp [total] at h2; omega
  | (d, c) :: l, n, h, h1, h2 => by
    rw [signL]
    rw [total_cons] at h2
    by_cases e : n < c
    · rw [if_pos e]
      exact h (d, c) List.mem_cons_self
    · rw [if_neg e]
      exact runAt_mem (fun p hp => h p (List.mem_cons_of_mem _ hp)) (by omega) (by have : (d, c).2 = c := rfl; omega)
theorem total_pos {a b : Str} : ∀ {l : Runs}, okR a b l = true → 0 < total l := by
  intro l h
  have h1 : ∀ p ∈ l, 1 ≤ p.2 := fun p hp => (okR_mem h hp).2
  have h2 : l ≠ [] := by
    intro z
    subst z
    cases h
  clear h
  induction l with
  | nil => exact absurd rfl h2
  | cons p l ih =>
    rw [total_cons]
    have p1 := h1 p List.mem_cons_self
    cases l with
    | nil => show 0 < p.2 + 0; omega
    | cons q l =>
      have := ih (fun r hr => h1 r (List.mem_cons_of_mem _ hr)) (by simp)
      omega
theorem total_le {B : Int} (hB : 0 ≤ B) : ∀ {l : Runs}, BndR B l → total l ≤ l.length * B
  | [], _ => by simp [total]
  | p :: l, h => by
    have h1 := (h p List.mem_cons_self).2
    have h2 := total_le hB (l := l) fun q hq => h q (List.mem_cons_of_mem _ hq)
    rw [total_cons]
    have e : ((p :: l).length : Int) * B = l.length * B + B := by
      rw [List.length_cons]
      push_cast
      rw [Int.add_mul]
      omega
    omega
theorem toP_lst {x : D} {ds : List D} (h : lstD S x = some ds) {n : Nat} : toP S (n + 1) x = (ds.mapM (toP S n)).map .list := by
  cases x with
  | loc m =>
    have h' : lstAt S m = some ds := h
    show (lstAt S m).bind _ = _
    rw [h']
    rfl
  | fl l => cases h; rfl
  | _ => cases h
theorem eq_nil {x : D} {ds : List D} (h : lstD S x = some ds) : cmpD .Eq x (.fl []) S = some ds.isEmpty := by
  show qEq x (.fl []) S = _
  have hn : lenNe x (.fl []) S = if ds.length = 0 then none else some false := by
    show (lstD S x).bind _ = _
    rw [h]
    rfl
  have e2 : toP S 50 (.fl []) = some (.list []) := rfl
  have e : eqD x (.fl []) S = some ds.isEmpty ∨ (eqD x (.fl []) S = none ∧ ds ≠ []) := by
    unfold eqD
    rw [e2, toP_lst h]
    cases ds with
    | nil => left; rfl
    | cons d l =>
      cases q : (d :: l).mapM (toP S 49) with
      | none => right; exact ⟨rfl, by simp⟩
      | some ps =>
        have hne : ps ≠ [] := by
          intro z
          subst z
          rw [List.mapM_cons] at q
          cases q1 : toP S 49 d with
          | none => rw [q1] at q; cases q
          | some p =>
            rw [q1] at q
            cases q2 : l.mapM (toP S 49) with
            | none => rw [q2] at q; cases q
            | some r => rw [q2] at q; cases q
        show (if SeqAt.shaped (.list ps) && SeqAt.shaped (.list []) then some (PyData.eqv (.list ps) (.list [])) else none) = _ ∨ (if SeqAt.shaped (.list ps) && SeqAt.shaped (.list []) then some (PyData.eqv (.list ps) (.list [])) else none) = _ ∧ _
        by_cases c : (SeqAt.shaped (.list ps) && SeqAt.shaped (.list [])) = true
        · left
          rw [if_pos c]
          cases ps with
          | nil => exact absurd rfl hne
          | cons p ps => rfl
        · right
          rw [if_neg c]
          exact ⟨rfl, by simp⟩
  have u : qEq x (.fl []) S = match eqD x (.fl []) S with
    | some b => some b
    | none => lenNe x (.fl []) S := by
    unfold qEq
    cases x <;> first | rfl | (cases h; done)
  rw [u]
  rcases e with e | ⟨e, ne⟩
  · rw [e]
  · rw [e, hn]
    cases ds with
    | nil => exact absurd rfl ne
    | cons d l => rfl
theorem isLB_of {x : D} (h : (lstM S x).isSome = true) : isLB x S = true := by
  cases x with
  | loc n =>
    have h' : (match S[n]? with
      | some (.lst ds) => some ds
      | _ => none).isSome = true := h
    show (match S[n]? with
      | some (.lst _) => true
      | _ => false) = true
    split at h'
    · rfl
    · cases h'
  | fl _ => rfl
  | _ => cases h
theorem so_of {x : D} {ds : List D} (h : lstD S x = some ds) {f : Src → Prop} (g : ∀ src, Walk src S ds → f src) : optP (srcOf x S) f := by
  cases x with
  | loc n =>
    have h' : lstAt S n = some ds := h
    show optP ((lstAt S n).map fun _ => Src.lst n) f
    rw [h']
    exact g _ (walk_lst h')
  | fl _ => cases h; exact g _ walk_ds
  | _ => cases h
theorem okR_alt {a b : Str} {t : Int} {B : Int} {l : Runs} (hab : a ≠ b) (ne : 0 < l.length) (ha : AltR a b t l) (hb : BndR B l) : okR a b l = true := by
  unfold okR
  rw [ascR_alt hab ha, Bool.and_true, Bool.and_eq_true]
  refine ⟨by cases l <;> simp_all, ?_⟩
  rw [List.all_eq_true]
  intro p hp
  obtain ⟨j, hj⟩ := List.getElem?_of_mem hp
  have e := ha j p hj
  have h1 := (hb p hp).1
  rw [e]
  split <;> simp [h1]
@[simp] theorem c_eqB {a b : Bool} : cmpD .Eq (.bl a) (.bl b) S = some (a == b) := by cases a <;> cases b <;> rfl
@[simp] theorem c_neB {a b : Bool} : cmpD .NotEq (.bl a) (.bl b) S = some (a != b) := by cases a <;> cases b <;> rfl
theorem ne_nil {x : D} {ds : List D} (h : lstD S x = some ds) : cmpD .NotEq x (.fl []) S = some (!ds.isEmpty) := by
  have := eq_nil h
  show (qEq x (.fl []) S).map _ = _
  have e : qEq x (.fl []) S = some ds.isEmpty := this
  rw [e]
  rfl
def BagOk (b : SO) (c : Int) : Prop := ∃ a m t : Int, b = .lst [.int a, .int m, .int t] ∧ 0 ≤ a ∧ 0 ≤ m ∧ m < 2 ^ 140 ∧ 0 ≤ t ∧ t ≤ c
theorem BagOk.le {b : SO} {c d : Int} (h : BagOk b c) (x : c ≤ d) : BagOk b d := by
  obtain ⟨a, m, t, h1, h2, h3, h4, h5, h6⟩ := h
  exact ⟨a, m, t, h1, h2, h3, h4, h5, by omega⟩
theorem BagOk.ltS {b : SO} {c : Int} {j : Nat} (h : BagOk b c) : b.lt j = true := by
  obtain ⟨a, m, t, rfl, _⟩ := h
  simp
@[simp] theorem ofS_inj {a b : String} : (Str.ofString a = Str.ofString b) = (a = b) := by
  apply propext
  constructor
  · intro h
    have h1 : a.toList.map Char.toNat = b.toList.map Char.toNat := by
      have := congrArg (fun x : Str => x.cps.toList) h
      simpa [Str.ofString_eq_toList] using this
    have inj : ∀ (l r : List Char), l.map Char.toNat = r.map Char.toNat → l = r := by
      intro l
      induction l with
      | nil => intro r h; cases r with
        | nil => rfl
        | cons _ _ => cases h
      | cons c l ih =>
        intro r h
        cases r with
        | nil => cases h
        | cons d r =>
          simp only [List.map_cons, List.cons.injEq] at h
          rw [ih r h.2, Char.toNat_inj.mp h.1]
    exact String.toList_inj.mp (inj _ _ h1)
  · intro h
    rw [h]
@[simp] theorem ofS_beq {a b : String} : (Str.ofString a == Str.ofString b) = (a == b) := by
  rw [Bool.eq_iff_iff]
  simp
theorem cf_run {W : Nat} {G : Nat → Option D} {T : Nat → Option Fd} {f : Nat} {fd : Fd} {ds : List D} (hT : T f = some fd) (hl : ds.length = fd.np) :
    WR (callF W G T (k + 1) f ds S) Q E = Ws (run W (callF W G T k) G fd.body (startE fd.n ds) S) { nx := fun _ S' => Q .non (cutS S true S'), rt := fun d S' => Q d (cutS S (d.lt S.length) S'), bk := fun _ _ => False, ct := fun _ _ => False, ex := fun c q _ S' => E c q (cutS S (ltL S.length q) S') } := by
  show WR (match T f with
    | some fd => if ds.length = fd.np then trim S (endR (run W (callF W G T k) G fd.body (startE fd.n ds) S)) else .bad
    | none => .bad) Q E = _
  rw [hT]
  show WR (if ds.length = fd.np then _ else _) Q E = _
  rw [if_pos hl, wp_trim, w_end]
  simp only [lt_non]
theorem ite2 {p a b : Prop} [Decidable p] (h1 : p → a) (h2 : ¬ p → b) : if p then a else b := by
  by_cases h : p
  · rw [if_pos h]; exact h1 h
  · rw [if_neg h]; exact h2 h
theorem WR_eq {r : R D} {d : D} (h : ∀ {Q : D → Sto → Prop} {E : Nat → List D → Sto → Prop}, Q d S → WR r Q E) {Q : D → Sto → Prop} {E : Nat → List D → Sto → Prop} : WR r Q E = Q d S := by
  have h0 := h (Q := fun x T => x = d ∧ T = S) (E := fun _ _ _ => False) ⟨rfl, rfl⟩
  cases r with
  | ok x T =>
    obtain ⟨rfl, rfl⟩ := h0
    rfl
  | exc _ _ _ => exact h0.elim
  | bad => exact h0.elim
@[simp] theorem lt_encP {p : Str × Int} : (encP p).lt k = true := by simp [encP]
@[simp] theorem lt_encR {l : Runs} : (encR l).lt k = true := by simp [encR]
@[simp] theorem lt_encC {a b : Runs} : (encC a b).lt k = true := by simp [encC]
theorem Rw_nat {n w : Nat} {i : Int} (j : Nat) (h0 : 0 ≤ i) (h : i < 2 ^ j) (hj : 0 < j) (hj2 : j ≤ 1900) (hw : j + 2 ≤ w) : Rw P n w (.int i) := by
  have := log2_lt h0 h hj
  exact Rw_int (by omega) (by omega)
theorem Rw_run {p : Str × Int} (hl : letter p.1) (h1 : 1 ≤ p.2) (h2 : p.2 ≤ 10 ^ 30) : Rw P 1 300 (encP p) := by
  refine Rw_tup (n := 0) (w := 120) (fun d hd => ?_) (by show 2 * (120 + 2) + 3 ≤ 300; omega)
  simp only [List.mem_cons, List.not_mem_nil, or_false] at hd
  rcases hd with rfl | rfl
  · refine Rw_str ?_
    rcases hl with e | e | e | e <;> rw [e] <;> decide +kernel
  · exact Rw_nat 100 (by omega) (by omega) (by omega) (by omega) (by omega)
theorem Rw_runs {a b : Str} {l : Runs} (ha : letter a) (hb : letter b) (o : okR a b l = true) (h : BndR (10 ^ 30) l) (hl : l.length ≤ 20) : Rw P 2 7000 (encR l) := by
  refine Rw_tup (n := 1) (w := 300) (fun d hd => ?_) (by rw [List.length_map]; omega)
  obtain ⟨p, hp, rfl⟩ := List.mem_map.mp hd
  refine Rw_run ?_ (h p hp).1 (h p hp).2
  rcases (okR_mem o hp).1 with e | e <;> rw [e] <;> assumption
theorem Rw_town {a b : Runs} (t : TownB a b) : Rw P 3 15000 (encC a b) := by
  refine Rw_tup (n := 2) (w := 7000) (fun d hd => ?_) (by show 2 * (7000 + 2) + 3 ≤ 15000; omega)
  simp only [List.mem_cons, List.not_mem_nil, or_false] at hd
  rcases hd with rfl | rfl
  · exact Rw_runs (.inl rfl) (.inr (.inl rfl)) t.oa t.ba t.la
  · exact Rw_runs (.inr (.inr (.inl rfl))) (.inr (.inr (.inr rfl))) t.ob t.bb t.lb
end
end CC
namespace CC
open PySem PySem.Spec PyProof.Rows L2
section
variable {S : Sto}
structure Cn where
  nm : Str
  so : Bool
  we : Bool
def Cn.x (c : Cn) : Str := if c.we = true then "E" else "W"
def Cn.x' (c : Cn) : Str := if c.we = true then "W" else "E"
def Cn.y (c : Cn) : Str := if c.so = true then "N" else "S"
def Cn.y' (c : Cn) : Str := if c.so = true then "S" else "N"
def corners : List Cn := [⟨"SW", true, true⟩, ⟨"SE", true, false⟩, ⟨"NE", false, false⟩, ⟨"NW", false, true⟩]
def pick (first : Bool) (l : Runs) : Str × Int := if first then l.headD ("", 0) else l.getLastD ("", 0)
theorem atI_last {α : Type} {xs : List α} {x : α} (h : xs.getLast? = some x) : atI xs (-1) = some x := by
  have hl : xs ≠ [] := by intro e; subst e; cases h
  have hp : 0 < xs.length := List.length_pos_iff.mpr hl
  unfold atI ixN
  rw [if_neg (by decide), if_pos (by omega)]
  show xs[((-1 : Int) + xs.length).toNat]? = some x
  have e : ((-1 : Int) + xs.length).toNat = xs.length - 1 := by omega
  rw [e, ← List.getLast?_eq_getElem?, h]
def kindS (r s : Str) (c : Cn) : Str := if r = c.x ∧ s = c.y then "source" else if r = c.x' ∧ s = c.y' then "sink" else "open"
structure Ent where
  c : Cn
  kd : Str
  w : Int
  h : Int
def ent (a b : Runs) (c : Cn) : Ent := ⟨c, kindS (pick c.so a).1 (pick c.we b).1 c, if kindS (pick c.so a).1 (pick c.we b).1 c = "open" then 0 else (pick c.we b).2, if kindS (pick c.so a).1 (pick c.we b).1 c = "open" then 0 else (pick c.so a).2⟩
def tab (a b : Runs) : List Ent := corners.map (ent a b)
def opp (x : Str) : Str := if x = "E" then "W" else if x = "W" then "E" else if x = "N" then "S" else "N"
structure Big (a b : Runs) : Prop where
  t : Town a b
  la : a.length ≤ 1000
  lb : b.length ≤ 1000
  ta : total a < 2 ^ 200
  tb : total b < 2 ^ 200
theorem TownB.big {a b : Runs} (t : TownB a b) : Big a b := by
  have := t.la
  have := t.lb
  have h1 := total_le (B := 10 ^ 30) (by decide) t.ba
  have h2 := total_le (B := 10 ^ 30) (by decide) t.bb
  exact ⟨t.town, by omega, by omega, by omega, by omega⟩
theorem Big.na {a b : Runs} (h : Big a b) : a ≠ [] := by
  intro e
  have := h.t.oa
  rw [e] at this
  cases this
theorem Big.nb {a b : Runs} (h : Big a b) : b ≠ [] := by
  intro e
  have := h.t.ob
  rw [e] at this
  cases this
def sg (d : Str) : Int := if d = "E" ∨ d = "N" then 1 else -1
theorem law_end {r : R D} {d : D} (h : WR r (fun x _ => x = d) (fun _ _ _ => False)) : ∃ S', r = .ok d S' := by
  cases r with
  | ok x S =>
    have : x = d := h
    exact ⟨S, by rw [this]⟩
  | exc _ _ _ => exact h.elim
  | bad => exact h.elim
def lim : Nat → Nat
  | 1 => 4
  | 2 => 45
  | 3 => 6
  | _ => 8
def bd : Nat → Nat
  | 0 => 1100
  | n + 1 => lim (n + 1) * (bd n + 2) + 3
end
end CC
namespace CC
structure Grid where
  W : Int
  H : Int
  e : Int → Bool
  n : Int → Bool
def sgB (b : Bool) : Int := if b = true then 1 else -1
def ahd (b : Bool) (u v : Int) : Prop := if b = true then u ≤ v else v ≤ u
def lst (b : Bool) (w : Int) : Int := if b = true then w - 1 else 0
@[simp] theorem ahd_t {u v : Int} : ahd true u v ↔ u ≤ v := by simp [ahd]
@[simp] theorem ahd_f {u v : Int} : ahd false u v ↔ v ≤ u := by simp [ahd]
@[simp] theorem sgB_t : sgB true = 1 := rfl
@[simp] theorem sgB_f : sgB false = -1 := rfl
@[simp] theorem lst_t {w : Int} : lst true w = w - 1 := rfl
@[simp] theorem lst_f {w : Int} : lst false w = 0 := rfl
namespace Grid
def In (g : Grid) (p : Int × Int) : Prop := 0 ≤ p.1 ∧ p.1 < g.W ∧ 0 ≤ p.2 ∧ p.2 < g.H
def Stp (g : Grid) (p q : Int × Int) : Prop := (q.2 = p.2 ∧ q.1 = p.1 + sgB (g.e p.2) ∧ 0 ≤ q.1 ∧ q.1 < g.W) ∨ (q.1 = p.1 ∧ q.2 = p.2 + sgB (g.n p.1) ∧ 0 ≤ q.2 ∧ q.2 < g.H)
inductive Rch (g : Grid) (p : Int × Int) : Int × Int → Prop
  | refl : Rch g p p
  | tail {q r : Int × Int} (h : Rch g p q) (s : g.Stp q r) : Rch g p r
def op (g : Grid) : Grid := ⟨g.W, g.H, fun y => !g.e y, fun x => !g.n x⟩
def tr (g : Grid) : Grid := ⟨g.H, g.W, g.n, g.e⟩
variable {g : Grid} {p q r : Int × Int}
theorem Rch.trans (h : Rch g p q) (k : Rch g q r) : Rch g p r := by
  induction k with
  | refl => exact h
  | tail _ s ih => exact ih.tail s
theorem Stp.inn (h : g.In p) (s : g.Stp p q) : g.In q := by
  obtain ⟨h1, h2, h3, h4⟩ := h
  rcases s with ⟨s1, s2, s3, s4⟩ | ⟨s1, s2, s3, s4⟩
  · exact ⟨s3, s4, by omega, by omega⟩
  · exact ⟨by omega, by omega, s3, s4⟩
theorem Rch.inn (h : g.In p) (k : Rch g p q) : g.In q := by
  induction k with
  | refl => exact h
  | tail _ s ih => exact Stp.inn ih s
theorem Rch.head (s : g.Stp p q) (k : Rch g q r) : Rch g p r := (Rch.refl.tail s).trans k
theorem sgB_not (b : Bool) : sgB (!b) = -sgB b := by cases b <;> rfl
theorem Stp.op (h : g.In p) (s : g.Stp p q) : g.op.Stp q p := by
  obtain ⟨h1, h2, h3, h4⟩ := h
  rcases s with ⟨s1, s2, s3, s4⟩ | ⟨s1, s2, s3, s4⟩
  · left
    refine ⟨s1.symm, ?_, h1, h2⟩
    show p.1 = q.1 + sgB (!g.e q.2)
    rw [s1, sgB_not]
    omega
  · right
    refine ⟨s1.symm, ?_, h3, h4⟩
    show p.2 = q.2 + sgB (!g.n q.1)
    rw [s1, sgB_not]
    omega
theorem Rch.op (h : g.In p) (k : Rch g p q) : Rch g.op q p := by
  induction k with
  | refl => exact .refl
  | tail k s ih => exact Rch.head (Stp.op (k.inn h) s) ih
theorem op_op : g.op.op = g := by
  cases g
  simp [Grid.op]
theorem Rch.of_op (h : g.In p) (k : Rch g.op p q) : Rch g q p := by
  have := Rch.op (g := g.op) h k
  rwa [op_op] at this
def sw (p : Int × Int) : Int × Int := (p.2, p.1)
theorem Stp.tr (s : g.Stp p q) : g.tr.Stp (sw p) (sw q) := by
  rcases s with s | s
  · exact .inr s
  · exact .inl s
theorem Rch.tr (k : Rch g p q) : Rch g.tr (sw p) (sw q) := by
  induction k with
  | refl => exact .refl
  | tail k s ih => exact ih.tail (Stp.tr s)
theorem Rch.of_tr (k : Rch g.tr (sw p) (sw q)) : Rch g p q := Rch.tr k
theorem In.tr (h : g.In p) : g.tr.In (sw p) := ⟨h.2.2.1, h.2.2.2, h.1, h.2.1⟩
theorem east {x y : Int} (he : g.e y = true) (h0 : 0 ≤ x) : ∀ (k : Nat), x + k < g.W → Rch g (x, y) (x + k, y)
  | 0, _ => by simpa using Rch.refl
  | k + 1, h => (east he h0 k (by omega)).tail (.inl ⟨rfl, by show x + ((k + 1 : Nat) : Int) = x + (k : Int) + sgB (g.e y); rw [he, sgB_t]; omega, by show 0 ≤ x + ((k + 1 : Nat) : Int); omega, h⟩)
theorem west {x y : Int} (he : g.e y = false) (h0 : x < g.W) : ∀ (k : Nat), 0 ≤ x - k → Rch g (x, y) (x - k, y)
  | 0, _ => by simpa using Rch.refl
  | k + 1, h => (west he h0 k (by omega)).tail (.inl ⟨rfl, by show x - ((k + 1 : Nat) : Int) = x - (k : Int) + sgB (g.e y); rw [he, sgB_f]; omega, h, by show x - ((k + 1 : Nat) : Int) < g.W; omega⟩)
theorem row {x x' y : Int} (h : g.In (x, y)) (h' : g.In (x', y)) (a : ahd (g.e y) x x') : Rch g (x, y) (x', y) := by
  obtain ⟨h1, h2, _, _⟩ := h
  obtain ⟨h3, h4, _, _⟩ := h'
  simp only at h1 h2 h3 h4
  cases he : g.e y with
  | true =>
    rw [he, ahd_t] at a
    have := east he h1 (x' - x).toNat (by omega)
    have e : x + ((x' - x).toNat : Int) = x' := by omega
    rwa [e] at this
  | false =>
    rw [he, ahd_f] at a
    have := west he h2 (x - x').toNat (by omega)
    have e : x - ((x - x').toNat : Int) = x' := by omega
    rwa [e] at this
theorem col {x y y' : Int} (h : g.In (x, y)) (h' : g.In (x, y')) (a : ahd (g.n x) y y') : Rch g (x, y) (x, y') :=
  Rch.of_tr (row (g := g.tr) h.tr h'.tr a)
theorem two_ways {x y x1 y1 : Int} (h : g.In (x, y)) (k : g.In (x1, y1)) (a : (ahd (g.e y) x x1 ∧ ahd (g.n x1) y y1) ∨ (ahd (g.n x) y y1 ∧ ahd (g.e y1) x x1)) : Rch g (x, y) (x1, y1) := by
  have h1 : g.In (x1, y) := ⟨k.1, k.2.1, h.2.2.1, h.2.2.2⟩
  have h2 : g.In (x, y1) := ⟨h.1, h.2.1, k.2.2.1, k.2.2.2⟩
  rcases a with ⟨a, b⟩ | ⟨a, b⟩
  · exact (row h h1 a).trans (col h1 k b)
  · exact (col h h2 a).trans (row h2 k b)
theorem row_end {x y : Int} (h : g.In (x, y)) : Rch g (x, y) (lst (g.e y) g.W, y) := by
  obtain ⟨h1, h2, h3, h4⟩ := h
  simp only at h1 h2 h3 h4
  cases he : g.e y with
  | true => exact row ⟨h1, h2, h3, h4⟩ ⟨by show 0 ≤ g.W - 1; omega, by show g.W - 1 < g.W; omega, h3, h4⟩ (by rw [he]; simp; omega)
  | false => exact row ⟨h1, h2, h3, h4⟩ ⟨Int.le_refl 0, by show 0 < g.W; omega, h3, h4⟩ (by rw [he]; simp; omega)
theorem col_end {x y : Int} (h : g.In (x, y)) : Rch g (x, y) (x, lst (g.n x) g.H) := Rch.of_tr (row_end (g := g.tr) h.tr)
theorem between2 (k : Rch g p q) : ∀ y, (p.2 ≤ y ∧ y ≤ q.2) ∨ (q.2 ≤ y ∧ y ≤ p.2) → ∃ x, Rch g p (x, y) := by
  induction k with
  | refl => intro y hy; exact ⟨p.1, by have : y = p.2 := by omega
                                       rw [this]; exact .refl⟩
  | @tail q r k s ih =>
    intro y hy
    by_cases c : (p.2 ≤ y ∧ y ≤ q.2) ∨ (q.2 ≤ y ∧ y ≤ p.2)
    · exact ih y c
    · have e : y = r.2 := by
        rcases s with ⟨s1, _⟩ | ⟨_, s2, _⟩
        · omega
        · cases hn : g.n q.1 <;> rw [hn] at s2 <;> simp only [sgB_t, sgB_f] at s2 <;> omega
      exact ⟨r.1, by rw [e]; exact k.tail s⟩
def All (g : Grid) (p : Int × Int) : Prop := (∀ y, 0 ≤ y → y < g.H → ∃ x, Rch g p (x, y)) ∧ ∀ x, 0 ≤ x → x < g.W → ∃ y, Rch g p (x, y)
structure Four (g : Grid) : Prop where
  e1 : ∃ y, 0 ≤ y ∧ y < g.H ∧ g.e y = true
  e0 : ∃ y, 0 ≤ y ∧ y < g.H ∧ g.e y = false
  n1 : ∃ x, 0 ≤ x ∧ x < g.W ∧ g.n x = true
  n0 : ∃ x, 0 ≤ x ∧ x < g.W ∧ g.n x = false
theorem Four.tr (f : Four g) : Four g.tr := ⟨f.n1, f.n0, f.e1, f.e0⟩
theorem Four.op (f : Four g) : Four g.op := by
  obtain ⟨⟨a, a1, a2, a3⟩, ⟨b, b1, b2, b3⟩, ⟨c, c1, c2, c3⟩, ⟨d, d1, d2, d3⟩⟩ := f
  exact ⟨⟨b, b1, b2, by simp [Grid.op, b3]⟩, ⟨a, a1, a2, by simp [Grid.op, a3]⟩, ⟨d, d1, d2, by simp [Grid.op, d3]⟩, ⟨c, c1, c2, by simp [Grid.op, c3]⟩⟩
theorem Four.e (f : Four g) (b : Bool) : ∃ y, 0 ≤ y ∧ y < g.H ∧ g.e y = b := by cases b; exact f.e0; exact f.e1
theorem Four.n (f : Four g) (b : Bool) : ∃ x, 0 ≤ x ∧ x < g.W ∧ g.n x = b := by cases b; exact f.n0; exact f.n1
def Snk (g : Grid) (p : Int × Int) : Prop := (∀ y, 0 ≤ y → y < g.H → ahd (g.n p.1) p.2 y → g.e y = g.e p.2) ∧ ∀ x, 0 ≤ x → x < g.W → ahd (g.e p.2) p.1 x → g.n x = g.n p.1
theorem rows_met {u v : Int} (h : g.In p) {d : Bool} (a : Rch g p (u, lst d g.H)) (b : Rch g p (v, lst (!d) g.H)) : ∀ y, 0 ≤ y → y < g.H → ∃ x, Rch g p (x, y) := by
  intro y h0 h1
  obtain ⟨_, _, h2, h3⟩ := h
  by_cases c : (p.2 ≤ y ∧ y ≤ lst d g.H) ∨ (lst d g.H ≤ y ∧ y ≤ p.2)
  · exact between2 a y c
  · refine between2 b y ?_
    show (p.2 ≤ y ∧ y ≤ lst (!d) g.H) ∨ (lst (!d) g.H ≤ y ∧ y ≤ p.2)
    cases d <;> simp only [Bool.not_true, Bool.not_false, lst_t, lst_f] at c ⊢ <;> omega
theorem all_of_col (f : Four g) (h : g.In p) {x : Int} (h0 : 0 ≤ x) (h1 : x < g.W) (a : ahd (g.e p.2) p.1 x) (hn : g.n x ≠ g.n p.1) : All g p := by
  have hx : g.In (x, p.2) := ⟨h0, h1, h.2.2.1, h.2.2.2⟩
  have r1 : Rch g p (x, p.2) := row (x := p.1) h hx a
  have r2 : Rch g p (x, lst (g.n x) g.H) := r1.trans (col_end hx)
  have r3 : Rch g p (p.1, lst (g.n p.1) g.H) := col_end (x := p.1) (y := p.2) h
  have en : g.n x = !g.n p.1 := by cases q1 : g.n x <;> cases q2 : g.n p.1 <;> simp_all
  rw [en] at r2
  have m := rows_met h r3 r2
  refine ⟨m, ?_⟩
  obtain ⟨y, y0, y1, ye⟩ := f.e (!g.e p.2)
  obtain ⟨u, hu⟩ := m y y0 y1
  have r4 : Rch g p (lst (!g.e p.2) g.W, y) := by
    have := hu.trans (row_end (hu.inn h))
    rwa [ye] at this
  have r5 : Rch g p (lst (g.e p.2) g.W, p.2) := row_end (x := p.1) (y := p.2) h
  intro z z0 z1
  have h' := h.tr
  obtain ⟨y', hy'⟩ := rows_met (g := g.tr) (p := sw p) h' (d := g.e p.2) (Rch.tr r5) (Rch.tr r4) z z0 z1
  exact ⟨y', Rch.of_tr (p := p) (q := (z, y')) hy'⟩
theorem all_of (f : Four g) (h : g.In p) (hs : ¬ Snk g p) : All g p := by
  by_cases c : ∃ x, 0 ≤ x ∧ x < g.W ∧ ahd (g.e p.2) p.1 x ∧ g.n x ≠ g.n p.1
  · obtain ⟨x, h0, h1, a, hn⟩ := c
    exact all_of_col f h h0 h1 a hn
  · by_cases c2 : ∃ y, 0 ≤ y ∧ y < g.H ∧ ahd (g.n p.1) p.2 y ∧ g.e y ≠ g.e p.2
    · obtain ⟨y, h0, h1, a, hn⟩ := c2
      obtain ⟨k1, k2⟩ := all_of_col (g := g.tr) f.tr h.tr h0 h1 a hn
      exact ⟨fun y y0 y1 => (k2 y y0 y1).elim fun x hx => ⟨x, Rch.of_tr (p := p) (q := (x, y)) hx⟩, fun x x0 x1 => (k1 x x0 x1).elim fun y hy => ⟨y, Rch.of_tr (p := p) (q := (x, y)) hy⟩⟩
    · exact absurd ⟨fun y h0 h1 a => Classical.byContradiction fun z => c2 ⟨y, h0, h1, a, z⟩, fun x h0 h1 a => Classical.byContradiction fun z => c ⟨x, h0, h1, a, z⟩⟩ hs
theorem meet_top {t : Int × Int} (hp : g.In p) (ht : g.In t) (a : All g p) (b : All g.op t) (no : ¬ Rch g p t) {u v : Int} (u0 : 0 ≤ u) (u1 : u < g.W) (v0 : 0 ≤ v) (v1 : v < g.W) (hu : g.n u = true) (hv : g.n v = false) :
    ¬ ahd (g.e (g.H - 1)) u v ∧ ¬ ahd (g.e 0) v u := by
  obtain ⟨_, _, t2, t3⟩ := ht
  have up : ∀ x d, 0 ≤ x → x < g.W → g.n x = d → Rch g p (x, lst d g.H) := by
    intro x d x0 x1 hd
    obtain ⟨y, hy⟩ := a.2 x x0 x1
    have := hy.trans (col_end (hy.inn hp))
    rwa [hd] at this
  have dn : ∀ x d, 0 ≤ x → x < g.W → g.n x = d → Rch g (x, lst (!d) g.H) t := by
    intro x d x0 x1 hd
    obtain ⟨y, hy⟩ := b.2 x x0 x1
    have := hy.trans (col_end (g := g.op) (hy.inn (g := g.op) ⟨‹_›, ‹_›, t2, t3⟩))
    have e : g.op.n x = !d := by simp [Grid.op, hd]
    rw [e] at this
    exact Rch.of_op (g := g) ⟨‹_›, ‹_›, t2, t3⟩ this
  have ht' : 0 < g.H := by omega
  refine ⟨fun c => no ?_, fun c => no ?_⟩
  · have r1 := up u true u0 u1 hu
    have r2 := dn v false v0 v1 hv
    simp only [lst_t, lst_f, Bool.not_false] at r1 r2
    exact (r1.trans (row ⟨u0, u1, by show 0 ≤ g.H - 1; omega, by show g.H - 1 < g.H; omega⟩ ⟨v0, v1, by show 0 ≤ g.H - 1; omega, by show g.H - 1 < g.H; omega⟩ c)).trans r2
  · have r1 := up v false v0 v1 hv
    have r2 := dn u true u0 u1 hu
    simp only [lst_t, lst_f, Bool.not_true] at r1 r2
    exact (r1.trans (row ⟨v0, v1, Int.le_refl _, ht'⟩ ⟨u0, u1, Int.le_refl _, ht'⟩ c)).trans r2
theorem all_tr (a : All g p) : All g.tr (sw p) := ⟨fun x x0 x1 => (a.2 x x0 x1).elim fun y hy => ⟨y, Rch.tr hy⟩, fun y y0 y1 => (a.1 y y0 y1).elim fun x hx => ⟨x, Rch.tr hx⟩⟩
theorem spec1 {x y x1 y1 : Int} (h : g.In (x, y)) (k : g.In (x1, y1)) (cn : ∀ u v, 0 ≤ u → u < g.W → 0 ≤ v → v < g.W → g.n u = true → g.n v = false → v < u) (ce : ∀ u v, 0 ≤ u → u < g.H → 0 ≤ v → v < g.H → g.e u = true → g.e v = false → v < u)
    (hs : ¬ Snk g (x, y)) (ht : ¬ Snk g.op (x1, y1)) : Rch g (x, y) (x1, y1) := by
  obtain ⟨a1, a2, a3, a4⟩ := h
  obtain ⟨b1, b2, b3, b4⟩ := k
  simp only at a1 a2 a3 a4 b1 b2 b3 b4
  have d1 : g.e y = !g.n x := by
    cases q1 : g.e y <;> cases q2 : g.n x <;> simp
    · refine hs ⟨fun z z0 z1 az => ?_, fun z z0 z1 az => ?_⟩
      · simp only [q1, q2, ahd_f] at az ⊢
        cases q3 : g.e z with
        | false => rfl
        | true => have := ce z y z0 z1 a3 a4 q3 q1; omega
      · simp only [q1, q2, ahd_f] at az ⊢
        cases q3 : g.n z with
        | false => rfl
        | true => have := cn z x z0 z1 a1 a2 q3 q2; omega
    · refine hs ⟨fun z z0 z1 az => ?_, fun z z0 z1 az => ?_⟩
      · simp only [q1, q2, ahd_t] at az ⊢
        cases q3 : g.e z with
        | true => rfl
        | false => have := ce y z a3 a4 z0 z1 q1 q3; omega
      · simp only [q1, q2, ahd_t] at az ⊢
        cases q3 : g.n z with
        | true => rfl
        | false => have := cn x z a1 a2 z0 z1 q2 q3; omega
  have d2 : g.e y1 = g.n x1 := by
    cases q1 : g.e y1 <;> cases q2 : g.n x1 <;> simp
    · refine ht ⟨fun z z0 z1 az => ?_, fun z z0 z1 az => ?_⟩
      · simp only [Grid.op, q1, q2, ahd_f, Bool.not_true, Bool.not_false] at az ⊢
        cases q3 : g.e z with
        | false => rfl
        | true => have := ce z y1 z0 z1 b3 b4 q3 q1; omega
      · simp only [Grid.op, q1, q2, ahd_t, Bool.not_true, Bool.not_false] at az ⊢
        cases q3 : g.n z with
        | true => rfl
        | false => have := cn x1 z b1 b2 z0 z1 q2 q3; omega
    · refine ht ⟨fun z z0 z1 az => ?_, fun z z0 z1 az => ?_⟩
      · simp only [Grid.op, q1, q2, ahd_t, Bool.not_true, Bool.not_false] at az ⊢
        cases q3 : g.e z with
        | true => rfl
        | false => have := ce y1 z b3 b4 z0 z1 q1 q3; omega
      · simp only [Grid.op, q1, q2, ahd_f, Bool.not_true, Bool.not_false] at az ⊢
        cases q3 : g.n z with
        | false => rfl
        | true => have := cn z x1 z0 z1 b1 b2 q3 q2; omega
  refine two_ways ⟨a1, a2, a3, a4⟩ ⟨b1, b2, b3, b4⟩ ?_
  have f1 := cn x x1 a1 a2 b1 b2
  have f2 := cn x1 x b1 b2 a1 a2
  have f3 := ce y y1 a3 a4 b3 b4
  have f4 := ce y1 y b3 b4 a3 a4
  cases q1 : g.e y <;> cases q2 : g.n x <;> cases q3 : g.e y1 <;> cases q4 : g.n x1 <;> rw [q1, q2] at d1 <;> rw [q3, q4] at d2 <;>
    first
      | (exfalso; revert d1; decide)
      | (exfalso; revert d2; decide)
      | (simp only [q1, q2, q3, q4, ahd_t, ahd_f, true_imp_iff, false_imp_iff, reduceCtorEq, imp_true_iff] at f1 f2 f3 f4 ⊢; omega)
theorem spec2 {x y x1 y1 : Int} (h : g.In (x, y)) (k : g.In (x1, y1)) (cn : ∀ u v, 0 ≤ u → u < g.W → 0 ≤ v → v < g.W → g.n u = true → g.n v = false → u < v) (ce : ∀ u v, 0 ≤ u → u < g.H → 0 ≤ v → v < g.H → g.e u = true → g.e v = false → u < v)
    (hs : ¬ Snk g (x, y)) (ht : ¬ Snk g.op (x1, y1)) : Rch g (x, y) (x1, y1) := by
  obtain ⟨a1, a2, a3, a4⟩ := h
  obtain ⟨b1, b2, b3, b4⟩ := k
  simp only at a1 a2 a3 a4 b1 b2 b3 b4
  have d1 : g.e y = g.n x := by
    cases q1 : g.e y <;> cases q2 : g.n x <;> simp
    · refine hs ⟨fun z z0 z1 az => ?_, fun z z0 z1 az => ?_⟩
      · simp only [q1, q2, ahd_t] at az ⊢
        cases q3 : g.e z with
        | false => rfl
        | true => have := ce z y z0 z1 a3 a4 q3 q1; omega
      · simp only [q1, q2, ahd_f] at az ⊢
        cases q3 : g.n z with
        | true => rfl
        | false => have := cn x z a1 a2 z0 z1 q2 q3; omega
    · refine hs ⟨fun z z0 z1 az => ?_, fun z z0 z1 az => ?_⟩
      · simp only [q1, q2, ahd_f] at az ⊢
        cases q3 : g.e z with
        | true => rfl
        | false => have := ce y z a3 a4 z0 z1 q1 q3; omega
      · simp only [q1, q2, ahd_t] at az ⊢
        cases q3 : g.n z with
        | false => rfl
        | true => have := cn z x z0 z1 a1 a2 q3 q2; omega
  have d2 : g.e y1 = !g.n x1 := by
    cases q1 : g.e y1 <;> cases q2 : g.n x1 <;> simp
    · refine ht ⟨fun z z0 z1 az => ?_, fun z z0 z1 az => ?_⟩
      · simp only [Grid.op, q1, q2, ahd_t, Bool.not_true, Bool.not_false] at az ⊢
        cases q3 : g.e z with
        | false => rfl
        | true => have := ce z y1 z0 z1 b3 b4 q3 q1; omega
      · simp only [Grid.op, q1, q2, ahd_t, Bool.not_true, Bool.not_false] at az ⊢
        cases q3 : g.n z with
        | false => rfl
        | true => have := cn z x1 z0 z1 b1 b2 q3 q2; omega
    · refine ht ⟨fun z z0 z1 az => ?_, fun z z0 z1 az => ?_⟩
      · simp only [Grid.op, q1, q2, ahd_f, Bool.not_true, Bool.not_false] at az ⊢
        cases q3 : g.e z with
        | true => rfl
        | false => have := ce y1 z b3 b4 z0 z1 q1 q3; omega
      · simp only [Grid.op, q1, q2, ahd_f, Bool.not_true, Bool.not_false] at az ⊢
        cases q3 : g.n z with
        | true => rfl
        | false => have := cn x1 z b1 b2 z0 z1 q2 q3; omega
  refine two_ways ⟨a1, a2, a3, a4⟩ ⟨b1, b2, b3, b4⟩ ?_
  have f1 := cn x x1 a1 a2 b1 b2
  have f2 := cn x1 x b1 b2 a1 a2
  have f3 := ce y y1 a3 a4 b3 b4
  have f4 := ce y1 y b3 b4 a3 a4
  cases q1 : g.e y <;> cases q2 : g.n x <;> cases q3 : g.e y1 <;> cases q4 : g.n x1 <;> rw [q1, q2] at d1 <;> rw [q3, q4] at d2 <;>
    first
      | (exfalso; revert d1; decide)
      | (exfalso; revert d2; decide)
      | (simp only [q1, q2, q3, q4, ahd_t, ahd_f, true_imp_iff, false_imp_iff, reduceCtorEq, imp_true_iff] at f1 f2 f3 f4 ⊢; omega)
theorem core {t : Int × Int} (f : Four g) (hp : g.In p) (ht : g.In t) (hs : ¬ Snk g p) (hk : ¬ Snk g.op t) : Rch g p t := by
  refine Classical.byContradiction fun no => ?_
  have a := all_of f hp hs
  have b := all_of f.op ht hk
  have noT : ¬ Rch g.tr (sw p) (sw t) := fun z => no (Rch.of_tr z)
  obtain ⟨_, _, p2, p3⟩ := hp
  have hp : g.In p := ⟨‹_›, ‹_›, p2, p3⟩
  obtain ⟨u0, u1, u2, u3⟩ := f.n1
  obtain ⟨v0, v1, v2, v3⟩ := f.n0
  obtain ⟨w0, w1, w2, w3⟩ := f.e1
  obtain ⟨z0, z1, z2, z3⟩ := f.e0
  have mt : ∀ u v, 0 ≤ u → u < g.W → 0 ≤ v → v < g.W → g.n u = true → g.n v = false → ¬ ahd (g.e (g.H - 1)) u v ∧ ¬ ahd (g.e 0) v u := fun u v h1 h2 h3 h4 h5 h6 => meet_top hp ht a b no h1 h2 h3 h4 h5 h6
  have ms : ∀ u v, 0 ≤ u → u < g.H → 0 ≤ v → v < g.H → g.e u = true → g.e v = false → ¬ ahd (g.n (g.W - 1)) u v ∧ ¬ ahd (g.n 0) v u := fun u v h1 h2 h3 h4 h5 h6 => meet_top (g := g.tr) hp.tr ht.tr (all_tr a) (all_tr b) noT h1 h2 h3 h4 h5 h6
  cases q : g.e (g.H - 1) with
  | true =>
    have cn : ∀ u v, 0 ≤ u → u < g.W → 0 ≤ v → v < g.W → g.n u = true → g.n v = false → v < u := fun u v h1 h2 h3 h4 h5 h6 => by
      have := (mt u v h1 h2 h3 h4 h5 h6).1
      rw [q, ahd_t] at this
      omega
    have nw : g.n (g.W - 1) = true := by
      cases q2 : g.n (g.W - 1) with
      | true => rfl
      | false => have := cn u0 (g.W - 1) u1 u2 (by omega) (by omega) u3 q2; omega
    have ce : ∀ u v, 0 ≤ u → u < g.H → 0 ≤ v → v < g.H → g.e u = true → g.e v = false → v < u := fun u v h1 h2 h3 h4 h5 h6 => by
      have := (ms u v h1 h2 h3 h4 h5 h6).1
      rw [nw, ahd_t] at this
      omega
    exact no (spec1 (x := p.1) (y := p.2) (x1 := t.1) (y1 := t.2) hp ht cn ce hs hk)
  | false =>
    have cn : ∀ u v, 0 ≤ u → u < g.W → 0 ≤ v → v < g.W → g.n u = true → g.n v = false → u < v := fun u v h1 h2 h3 h4 h5 h6 => by
      have := (mt u v h1 h2 h3 h4 h5 h6).1
      rw [q, ahd_f] at this
      omega
    have nw : g.n (g.W - 1) = false := by
      cases q2 : g.n (g.W - 1) with
      | false => rfl
      | true => have := cn (g.W - 1) v0 (by omega) (by omega) v1 v2 q2 v3; omega
    have ce : ∀ u v, 0 ≤ u → u < g.H → 0 ≤ v → v < g.H → g.e u = true → g.e v = false → u < v := fun u v h1 h2 h3 h4 h5 h6 => by
      have := (ms u v h1 h2 h3 h4 h5 h6).1
      rw [nw, ahd_f] at this
      omega
    exact no (spec2 (x := p.1) (y := p.2) (x1 := t.1) (y1 := t.2) hp ht cn ce hs hk)
theorem stays (hp : g.In p) (hs : Snk g p) (k : Rch g p q) : ahd (g.e p.2) p.1 q.1 ∧ ahd (g.n p.1) p.2 q.2 := by
  induction k with
  | refl => cases g.e p.2 <;> cases g.n p.1 <;> simp
  | @tail q r k s ih =>
    obtain ⟨i1, i2⟩ := ih
    have hq := k.inn hp
    have e1 : g.e q.2 = g.e p.2 := hs.1 _ hq.2.2.1 hq.2.2.2 i2
    have e2 : g.n q.1 = g.n p.1 := hs.2 _ hq.1 hq.2.1 i1
    rcases s with ⟨s1, s2, _⟩ | ⟨s1, s2, _⟩
    · rw [e1] at s2
      rw [s1]
      refine ⟨?_, i2⟩
      cases c : g.e p.2 <;> rw [c] at s2 i1 <;> simp only [sgB_t, sgB_f, ahd_t, ahd_f] at * <;> omega
    · rw [e2] at s2
      rw [s1]
      refine ⟨i1, ?_⟩
      cases c : g.n p.1 <;> rw [c] at s2 i2 <;> simp only [sgB_t, sgB_f, ahd_t, ahd_f] at * <;> omega
theorem goes {t : Int × Int} (hp : g.In p) (ht : g.In t) (hs : Snk g p) (a : ahd (g.e p.2) p.1 t.1) (b : ahd (g.n p.1) p.2 t.2) : Rch g p t :=
  two_ways (x := p.1) (y := p.2) (x1 := t.1) (y1 := t.2) hp ht (.inl ⟨a, by rw [hs.2 _ ht.1 ht.2.1 a]; exact b⟩)
open Classical in
theorem reach {t : Int × Int} (f : Four g) (hp : g.In p) (ht : g.In t) :
    Rch g p t ↔ if Snk g p then ahd (g.e p.2) p.1 t.1 ∧ ahd (g.n p.1) p.2 t.2 else if Snk g.op t then ahd (!g.e t.2) t.1 p.1 ∧ ahd (!g.n t.1) t.2 p.2 else True := by
  by_cases hs : Snk g p
  · rw [if_pos hs]
    exact ⟨fun k => stays hp hs k, fun ⟨a, b⟩ => goes hp ht hs a b⟩
  · rw [if_neg hs]
    by_cases hk : Snk g.op t
    · rw [if_pos hk]
      exact ⟨fun k => stays (g := g.op) ht hk (k.op hp), fun ⟨a, b⟩ => Rch.of_op (g := g) ht (goes (g := g.op) ht hp hk a b)⟩
    · rw [if_neg hk]
      exact ⟨fun _ => trivial, fun _ => core f hp ht hs hk⟩
end Grid
end CC
namespace CC
open PySem PySem.Spec PyProof.Rows L2
namespace Grid
variable {g : Grid} {p q : Int × Int}
theorem rows_way {d : Bool} (hd : ∀ y, 0 ≤ y → y < g.H → g.e y = d) (hp : g.In p) (k : Rch g p q) : ahd d p.1 q.1 ∧ (q.2 = p.2 ∨ ∃ x, min p.1 q.1 ≤ x ∧ x ≤ max p.1 q.1 ∧ g.n x = decide (p.2 < q.2)) := by
  induction k with
  | refl => exact ⟨by cases d <;> simp, .inl rfl⟩
  | @tail q r k s ih =>
    obtain ⟨i1, i2⟩ := ih
    have hq := k.inn hp
    have he := hd q.2 hq.2.2.1 hq.2.2.2
    rcases s with ⟨s1, s2, _⟩ | ⟨s1, s2, _⟩
    · rw [he] at s2
      refine ⟨by cases d <;> simp only [sgB_t, sgB_f, ahd_t, ahd_f] at * <;> omega, ?_⟩
      rw [s1]
      rcases i2 with e | ⟨x, x0, x1, xn⟩
      · exact .inl e
      · refine .inr ⟨x, ?_, ?_, xn⟩ <;> (cases d <;> simp only [sgB_t, sgB_f, ahd_t, ahd_f] at * <;> omega)
    · rw [s1]
      refine ⟨i1, ?_⟩
      by_cases c : r.2 = p.2
      · exact .inl c
      · right
        by_cases c2 : g.n q.1 = decide (p.2 < r.2)
        · exact ⟨q.1, by omega, by omega, c2⟩
        · rcases i2 with e | ⟨x, x0, x1, xn⟩
          · exfalso
            cases hn : g.n q.1 <;> rw [hn] at s2 c2 <;> simp at s2 c2 <;> omega
          · refine ⟨x, x0, x1, ?_⟩
            rw [xn]
            cases hn : g.n q.1 <;> rw [hn] at s2 c2 <;> simp at s2 c2 ⊢ <;> omega
theorem reach_rows {d : Bool} (hd : ∀ y, 0 ≤ y → y < g.H → g.e y = d) (hp : g.In p) (hq : g.In q) : Rch g p q ↔ ahd d p.1 q.1 ∧ (q.2 = p.2 ∨ ∃ x, min p.1 q.1 ≤ x ∧ x ≤ max p.1 q.1 ∧ g.n x = decide (p.2 < q.2)) := by
  refine ⟨rows_way hd hp, fun ⟨a, b⟩ => ?_⟩
  obtain ⟨p0, p1, p2, p3⟩ := hp
  obtain ⟨q0, q1, q2, q3⟩ := hq
  rcases b with e | ⟨x, x0, x1, xn⟩
  · exact two_ways (x := p.1) (y := p.2) (x1 := q.1) (y1 := q.2) ⟨p0, p1, p2, p3⟩ ⟨q0, q1, q2, q3⟩ (.inl ⟨by rw [hd _ p2 p3]; exact a, by rw [e]; cases g.n q.1 <;> simp⟩)
  · have hx : 0 ≤ x ∧ x < g.W := by omega
    have m1 : g.In (x, p.2) := ⟨hx.1, hx.2, p2, p3⟩
    have m2 : g.In (x, q.2) := ⟨hx.1, hx.2, q2, q3⟩
    have r1 : Rch g p (x, p.2) := row (x := p.1) (y := p.2) ⟨p0, p1, p2, p3⟩ m1 (by rw [hd _ p2 p3]; cases d <;> simp only [ahd_t, ahd_f] at a ⊢ <;> omega)
    have r2 : Rch g (x, p.2) (x, q.2) := col m1 m2 (by rw [xn]; by_cases c : p.2 < q.2 <;> simp [c] <;> omega)
    have r3 : Rch g (x, q.2) q := row (x' := q.1) m2 ⟨q0, q1, q2, q3⟩ (by rw [hd _ q2 q3]; cases d <;> simp only [ahd_t, ahd_f] at a ⊢ <;> omega)
    exact (r1.trans r2).trans r3
end Grid
theorem total_ge : ∀ {l : Runs}, (∀ p ∈ l, 1 ≤ p.2) → 0 ≤ total l
  | [], _ => Int.le_refl 0
  | p :: l, h => by
    have := total_ge (l := l) fun q hq => h q (List.mem_cons_of_mem _ hq)
    have := h p List.mem_cons_self
    rw [total_cons]
    omega
theorem total_append {l m : Runs} : total (l ++ m) = total l + total m := by
  induction l with
  | nil => show total m = 0 + total m; omega
  | cons p l ih => rw [List.cons_append, total_cons, total_cons, ih]; omega
theorem signL_append : ∀ {l m : Runs} {z : Int}, (∀ p ∈ l, 1 ≤ p.2) → 0 ≤ z → signL (l ++ m) z = if z < total l then signL l z else signL m (z - total l)
  | [], m, z, _, h0 => by
    have : total [] = 0 := rfl
    rw [this, if_neg (by omega), Int.sub_zero]
    rfl
  | (d, c) :: l, m, z, h, h0 => by
    have h1 : ∀ p ∈ l, 1 ≤ p.2 := fun p hp => h p (List.mem_cons_of_mem _ hp)
    have h2 := total_ge h1
    rw [total_cons]
    show (if z < c then d else signL (l ++ m) (z - c)) = _
    by_cases e : z < c
    · rw [if_pos e, if_pos (by show z < c + total l; omega)]
      show d = if z < c then d else _
      rw [if_pos e]
    · rw [if_neg e, signL_append h1 (by omega)]
      show (if z - c < total l then _ else _) = if z < c + total l then (if z < c then d else signL l (z - c)) else signL m (z - (c + total l))
      by_cases e2 : z - c < total l
      · rw [if_pos e2, if_pos (by omega), if_neg e]
      · rw [if_neg e2, if_neg (by omega)]
        congr 1
        omega
def Dif (l : Runs) : Prop := ∀ i p q, l[i]? = some p → l[i + 1]? = some q → p.1 ≠ q.1
theorem Dif.rev {l : Runs} (h : Dif l) : Dif l.reverse := by
  intro i p q h1 h2
  have l2 : i + 1 < l.length := by
    have := (List.getElem?_eq_some_iff.mp h2).1
    rwa [List.length_reverse] at this
  rw [List.getElem?_reverse (by omega)] at h1
  rw [List.getElem?_reverse l2] at h2
  have e : l.length - 1 - i = (l.length - 1 - (i + 1)) + 1 := by omega
  rw [e] at h1
  exact (h _ q p h2 h1).symm
theorem pick_rev {l : Runs} : pick false l = pick true l.reverse := by
  unfold pick
  show l.getLastD ("", 0) = l.reverse.headD ("", 0)
  cases h : l.reverse with
  | nil =>
    have : l = [] := by simpa using h
    rw [this]
    rfl
  | cons p m =>
    have e : l = m.reverse ++ [p] := by
      have := congrArg List.reverse h
      simpa using this
    rw [e]
    show (m.reverse ++ [p]).getLastD ("", 0) = p
    rw [List.getLastD_eq_getLast?, List.getLast?_append]
    rfl
section
variable {A B : Str} {l : Runs} {f : Bool} {z : Int}
theorem ok_pos (o : okR A B l = true) : ∀ p ∈ l, 1 ≤ p.2 := fun p hp => (okR_mem o hp).2
theorem sign_or (o : okR A B l = true) (h0 : 0 ≤ z) (h1 : z < total l) : signL l z = A ∨ signL l z = B := runAt_mem (fun p hp => (okR_mem o hp).1) h0 h1
end
end CC
namespace CC
open PySem PySem.Spec PyProof.Rows L2 Grid
section
variable {a b : Runs} {p q : Int × Int}
theorem ew : ("E" : Str) ≠ "W" := by decide
theorem ns : ("N" : Str) ≠ "S" := by decide
end
end CC
namespace CC
open PySem PySem.Spec PyProof.Rows L2 Grid
section
variable {S : Sto}
theorem ws_walk {α : Type} {src : Src} {m : List α} {f : α → D} {tg : Xp} {b : Env → Sto → Rs} {p : Po} {ρ : Env} (I : List α → Env → Sto → Prop) (hw : ∀ r ρ S', I r ρ S' → Walk src S' (m.map f))
    (go : ∀ d r ρ S, d ∈ m → I (d :: r) ρ S → optP (bindT tg (f d) ρ) fun ρ1 => Ws (b ρ1 S) { nx := I r, ct := I r, bk := p.nx, rt := p.rt, ex := p.ex })
    (fin : ∀ ρ S, I [] ρ S → p.nx ρ S) (h : I m ρ S) : Ws (forl src tg b (Src.size src S + 1) 0 ρ S) p := by
  have hs := (hw _ _ _ h).size
  rw [List.length_map] at hs
  refine ws_forl m.length (fun i ρ S => I (m.drop i) ρ S) (fun i ρ S hi z => ?_) (fun ρ S z => ?_) _ 0 ρ S (Nat.zero_le _) (by omega) h
  · have e : m.drop i = m[i] :: m.drop (i + 1) := List.drop_eq_getElem_cons hi
    have z' : I (m.drop i) ρ S := z
    have w := (hw _ _ _ z').get i
    rw [e] at z'
    have g := go _ _ ρ S (List.getElem_mem hi) z'
    cases hb : bindT tg (f m[i]) ρ with
    | none => rw [hb] at g; exact g.elim
    | some ρ1 =>
      rw [hb] at g
      exact ⟨f m[i], ρ1, by rw [w, List.getElem?_map, List.getElem?_eq_getElem hi]; rfl, hb, g⟩
  · have z' : I (m.drop m.length) ρ S := z
    have w := (hw _ _ _ z').get m.length
    rw [List.drop_length] at z'
    exact ⟨by rw [w]; simp, fin ρ S z'⟩
theorem so_ofG {x : D} {ds : List D} (h : lstD S x = some ds) {f : Src → Prop} (g : ∀ src, (∀ S', lstD S' x = some ds → Walk src S' ds) → f src) : optP (srcOf x S) f := by
  cases x with
  | loc n =>
    have h' : lstAt S n = some ds := h
    show optP ((lstAt S n).map fun _ => Src.lst n) f
    rw [h']
    exact g _ fun S' h2 => walk_lst h2
  | fl _ => cases h; exact g _ fun S' h2 => by cases h2; exact walk_ds
  | _ => cases h
theorem lstAt_app {n : Nat} {ds : List D} {J : Sto} (h : lstAt S n = some ds) : lstAt (S ++ J) n = some ds := by
  unfold lstAt at h ⊢
  cases q : S[n]? with
  | none => rw [q] at h; cases h
  | some so => rw [q] at h; rw [old_get q]; exact h
theorem lstD_app {x : D} {ds : List D} {J : Sto} (h : lstD S x = some ds) : lstD (S ++ J) x = some ds := by
  cases x with
  | loc n => exact lstAt_app h
  | fl _ => exact h
  | _ => cases h
end
def rstep (acc : Runs) (x : Str) : Runs := match acc.getLast? with
  | some p => if p.1 = x then acc.dropLast ++ [(x, p.2 + 1)] else acc ++ [(x, 1)]
  | none => acc ++ [(x, 1)]
def rns (l : List Str) : Runs := l.foldl rstep []
theorem rns_snoc {l : List Str} {x : Str} : rns (l ++ [x]) = rstep (rns l) x := by unfold rns; rw [List.foldl_append]; rfl
theorem snoc_ind {α : Type} {P : List α → Prop} (h0 : P []) (h1 : ∀ l x, P l → P (l ++ [x])) : ∀ l, P l := by
  intro l
  have : ∀ r : List α, P r.reverse := by
    intro r
    induction r with
    | nil => exact h0
    | cons x r ih => rw [List.reverse_cons]; exact h1 _ _ ih
  have e := this l.reverse
  rwa [List.reverse_reverse] at e
structure RnsOk (A B : Str) (l : List Str) : Prop where
  tot : total (rns l) = l.length
  pos : ∀ p ∈ rns l, 1 ≤ p.2
  let_ : ∀ p ∈ rns l, p.1 = A ∨ p.1 = B
  dif : Dif (rns l)
  sgn : ∀ (i : Nat) (h : i < l.length), signL (rns l) i = l[i]
  len : (rns l).length ≤ l.length
  ne : l ≠ [] → rns l ≠ []
theorem rns_ok {A B : Str} : ∀ l : List Str, (∀ x ∈ l, x = A ∨ x = B) → RnsOk A B l := by
  refine snoc_ind ?_ ?_
  · intro _
    exact ⟨rfl, (fun p hp => by cases hp), (fun p hp => by cases hp), (fun i p q h => by cases h), (fun i h => by cases h), Nat.le_refl _, fun h => absurd rfl h⟩
  · intro l x ih hl
    obtain ⟨t, po, le, di, sg, ln, ne⟩ := ih fun y hy => hl y (List.mem_append_left _ hy)
    have hx := hl x (by simp)
    rw [show RnsOk A B (l ++ [x]) = RnsOk A B (l ++ [x]) from rfl]
    have new : ∀ r, rns (l ++ [x]) = r → total r = l.length + 1 → (∀ p ∈ r, 1 ≤ p.2) → (∀ p ∈ r, p.1 = A ∨ p.1 = B) → Dif r → (∀ (i : Nat) (h : i < l.length), signL r i = l[i]) → signL r (l.length : Nat) = x → r.length ≤ l.length + 1 → r ≠ [] → RnsOk A B (l ++ [x]) := by
      intro r hr h1 h2 h3 h4 h5 h6 h7 h8
      subst hr
      refine ⟨by rw [h1]; simp, h2, h3, h4, fun i hi => ?_, by simpa using h7, fun _ => h8⟩
      by_cases c : i < l.length
      · rw [h5 i c, List.getElem_append_left c]
      · have e : i = l.length := by simp at hi; omega
        subst e
        rw [h6]
        simp
    have one : rns (l ++ [x]) = rns l ++ [(x, 1)] → (∀ p, (rns l).getLast? = some p → p.1 ≠ x) → RnsOk A B (l ++ [x]) := by
      intro hr hne
      refine new _ hr (by rw [total_append, t]; rfl) ?_ ?_ ?_ ?_ ?_ (by simp; omega) (by simp)
      · intro p hp
        rcases List.mem_append.mp hp with hp | hp
        · exact po p hp
        · rw [List.mem_singleton.mp hp]; exact Int.le_refl 1
      · intro p hp
        rcases List.mem_append.mp hp with hp | hp
        · exact le p hp
        · rw [List.mem_singleton.mp hp]; exact hx
      · intro i p q h1 h2
        by_cases c : i + 1 < (rns l).length
        · rw [List.getElem?_append_left (by omega)] at h1
          rw [List.getElem?_append_left c] at h2
          exact di i p q h1 h2
        · have hi : i + 1 < (rns l ++ [(x, (1 : Int))]).length := (List.getElem?_eq_some_iff.mp h2).1
          rw [List.length_append] at hi
          have e : i + 1 = (rns l).length := by simp at hi; omega
          rw [List.getElem?_append_left (by omega)] at h1
          rw [e, List.getElem?_append_right (Nat.le_refl _)] at h2
          simp at h2
          subst h2
          exact hne p (by rw [List.getLast?_eq_getElem?, ← e]; exact h1)
      · intro i h
        rw [signL_append po (by omega), if_pos (by rw [t]; omega)]
        exact sg i h
      · rw [signL_append po (by omega), if_neg (by rw [t]; omega), t]
        show (if (l.length : Int) - l.length < 1 then x else _) = x
        rw [if_pos (by omega)]
    cases hg : (rns l).getLast? with
    | none => exact one (by rw [rns_snoc]; unfold rstep; rw [hg]) fun p hp => by rw [hg] at hp; cases hp
    | some p =>
      by_cases c : p.1 = x
      · have hsplit : rns l = (rns l).dropLast ++ [p] := by
          have h0 : rns l ≠ [] := fun e => by rw [e] at hg; cases hg
          have e1 := List.dropLast_concat_getLast h0
          have e2 : (rns l).getLast h0 = p := by
            rw [List.getLast?_eq_some_getLast h0] at hg
            exact Option.some.inj hg
          rw [e2] at e1
          exact e1.symm
        generalize hm : (rns l).dropLast = m at hsplit
        have hr : rns (l ++ [x]) = m ++ [(x, p.2 + 1)] := by
          rw [rns_snoc]
          unfold rstep
          rw [hg]
          show (if p.1 = x then _ else _) = _
          rw [if_pos c, hm]
        have pp : 1 ≤ p.2 := po p (by rw [hsplit]; simp)
        have pm : ∀ q ∈ m, 1 ≤ q.2 := fun q hq => po q (by rw [hsplit]; exact List.mem_append_left _ hq)
        have tm : total m + p.2 = l.length := by
          have := t
          rw [hsplit, total_append] at this
          have e : total [p] = p.2 := by show p.2 + 0 = p.2; omega
          omega
        have hs1 : ∀ z : Int, 0 ≤ z → z < l.length → signL (m ++ [(x, p.2 + 1)]) z = signL (rns l) z := by
          intro z z0 z1
          rw [hsplit, signL_append pm z0, signL_append pm z0]
          by_cases c2 : z < total m
          · rw [if_pos c2, if_pos c2]
          · rw [if_neg c2, if_neg c2]
            obtain ⟨d, cc⟩ := p
            show (if z - total m < cc + 1 then x else _) = (if z - total m < cc then d else _)
            have tm' : total m + cc = l.length := tm
            rw [if_pos (by omega), if_pos (by omega)]
            exact c.symm
        refine new _ hr ?_ ?_ ?_ ?_ ?_ ?_ ?_ (by simp)
        · rw [total_append]
          have e : total [(x, p.2 + 1)] = p.2 + 1 := by show p.2 + 1 + 0 = p.2 + 1; omega
          omega
        · intro q hq
          rcases List.mem_append.mp hq with hq | hq
          · exact pm q hq
          · rw [List.mem_singleton.mp hq]; show 1 ≤ p.2 + 1; omega
        · intro q hq
          rcases List.mem_append.mp hq with hq | hq
          · exact le q (by rw [hsplit]; exact List.mem_append_left _ hq)
          · rw [List.mem_singleton.mp hq]; exact hx
        · intro i q r h1 h2
          have key : ∀ (j : Nat) (q : Str × Int), (m ++ [(x, p.2 + 1)])[j]? = some q → ∃ q', (rns l)[j]? = some q' ∧ q'.1 = q.1 := by
            intro j q hq
            rw [hsplit]
            by_cases c2 : j < m.length
            · rw [List.getElem?_append_left c2] at hq
              rw [List.getElem?_append_left c2]
              exact ⟨q, hq, rfl⟩
            · have hj : j < (m ++ [(x, p.2 + 1)]).length := (List.getElem?_eq_some_iff.mp hq).1
              have e : j = m.length := by simp at hj; omega
              subst e
              rw [List.getElem?_append_right (Nat.le_refl _)] at hq
              simp at hq
              subst hq
              exact ⟨p, by simp, c⟩
          obtain ⟨q', k1, k2⟩ := key _ _ h1
          obtain ⟨r', k3, k4⟩ := key _ _ h2
          rw [← k2, ← k4]
          exact di i q' r' k1 k3
        · intro i h
          rw [hs1 i (by omega) (by omega)]
          exact sg i h
        · rw [signL_append pm (by omega), if_neg (by omega)]
          show (if (l.length : Int) - total m < p.2 + 1 then x else _) = x
          rw [if_pos (by omega)]
        · have : (rns l).length = m.length + 1 := by rw [hsplit]; simp
          simp
          omega
      · exact one (by rw [rns_snoc]; unfold rstep; rw [hg]; show (if p.1 = x then _ else _) = _; rw [if_neg c]) fun q hq => by rw [← Option.some.inj (hg.symm.trans hq)]; exact c
theorem dif_ascR : ∀ {l : Runs}, Dif l → ascR l = true := by
  intro l h
  unfold ascR
  refine List.all_eq_true.mpr fun pq hpq => ?_
  obtain ⟨i, hi, e⟩ := List.getElem_of_mem hpq
  obtain ⟨p, q⟩ := pq
  have : (l.zip l.tail)[i]? = some (p, q) := by rw [List.getElem?_eq_getElem hi, e]
  rw [List.getElem?_zip_eq_some] at this
  obtain ⟨h1, h2⟩ := this
  rw [List.getElem?_tail] at h2
  have := h i p q h1 h2
  simpa using this
theorem RnsOk.okR {A B : Str} {l : List Str} (h : RnsOk A B l) (h0 : l ≠ []) : okR A B (rns l) = true := by
  unfold CC.okR
  rw [Bool.and_eq_true, Bool.and_eq_true]
  refine ⟨⟨?_, ?_⟩, dif_ascR h.dif⟩
  · cases hr : rns l with
    | nil => exact absurd hr (h.ne h0)
    | cons _ _ => rfl
  · refine List.all_eq_true.mpr fun p hp => ?_
    rcases h.let_ p hp with e | e <;> simp [e, h.pos p hp]
def lgr (R C : List Str) : Grid := ⟨C.length, R.length, fun y => R.getD y.toNat "" == "E", fun x => C.getD x.toNat "" == "N"⟩
def nb (R C : List Str) (p : Int × Int) : List (Int × Int) :=
  (if 0 ≤ p.1 + sgB ((lgr R C).e p.2) ∧ p.1 + sgB ((lgr R C).e p.2) < C.length then [(p.1 + sgB ((lgr R C).e p.2), p.2)] else []) ++
  (if 0 ≤ p.2 + sgB ((lgr R C).n p.1) ∧ p.2 + sgB ((lgr R C).n p.1) < R.length then [(p.1, p.2 + sgB ((lgr R C).n p.1))] else [])
def nk (p : Int × Int) : NestedKey := .tup [.num p.1, .num p.2]
theorem getD_at {R : List Str} {y : Int} (h0 : 0 ≤ y) (h1 : y < R.length) : R.getD y.toNat "" = R[y.toNat]'(by omega) := by
  rw [List.getD_eq_getElem?_getD, List.getElem?_eq_getElem (by omega)]
  rfl
section
variable {S : Sto} {Q : D → Sto → Prop} {E : Nat → List D → Sto → Prop} {ks : List NestedKey} {ds : List D}
@[simp ↓] theorem fr_fm {S0 : Sto} : WR (trim S0 (frzD (.fm ks ds) S)) Q E = Q (.fm ks ds) (cutS S0 (ltL S0.length ds) S) := by rw [wp_trim]; show Q _ (cutS S0 _ S) = _; rw [lt_fm]
end
end CC
namespace CC
open PySem PySem.Spec PyProof.Rows L2 Grid
structure Kp (w : Int) (f : Int → Bool) (w' : Int) (f' : Int → Bool) (φ : Int → Int) : Prop where
  inn : ∀ x, 0 ≤ x → x < w' → 0 ≤ φ x ∧ φ x < w
  up : ∀ x y, 0 ≤ x → x < w' → 0 ≤ y → y < w' → (x ≤ y ↔ φ x ≤ φ y)
  eq : ∀ x, 0 ≤ x → x < w' → f' x = f (φ x)
  run : ∀ u, 0 ≤ u → u < w → ∃ x y, 0 ≤ x ∧ x < w' ∧ 0 ≤ y ∧ y < w' ∧ φ x ≤ u ∧ u ≤ φ y ∧ ∀ z, φ x ≤ z → z ≤ φ y → f z = f u
section
variable {w w' : Int} {f f' : Int → Bool} {φ : Int → Int} {x y : Int}
theorem Kp.ahd (k : Kp w f w' f' φ) {b : Bool} (x0 : 0 ≤ x) (x1 : x < w') (y0 : 0 ≤ y) (y1 : y < w') : CC.ahd b x y ↔ CC.ahd b (φ x) (φ y) := by
  cases b
  · rw [ahd_f, ahd_f]; exact k.up y x y0 y1 x0 x1
  · rw [ahd_t, ahd_t]; exact k.up x y x0 x1 y0 y1
theorem Kp.inj (k : Kp w f w' f' φ) (x0 : 0 ≤ x) (x1 : x < w') (y0 : 0 ≤ y) (y1 : y < w') : x = y ↔ φ x = φ y := by
  have h1 := k.up x y x0 x1 y0 y1
  have h2 := k.up y x y0 y1 x0 x1
  constructor
  · intro e; rw [e]
  · intro e
    have := h1.mpr (by omega)
    have := h2.mpr (by omega)
    omega
theorem Kp.not (k : Kp w f w' f' φ) : Kp w (fun z => !f z) w' (fun z => !f' z) φ where
  inn := k.inn
  up := k.up
  eq := fun x x0 x1 => by rw [k.eq x x0 x1]
  run := fun u u0 u1 => by
    obtain ⟨x, y, h1, h2, h3, h4, h5, h6, h7⟩ := k.run u u0 u1
    exact ⟨x, y, h1, h2, h3, h4, h5, h6, fun z z1 z2 => by rw [h7 z z1 z2]⟩
theorem Kp.some (k : Kp w f w' f' φ) {d : Bool} (h : ∃ z, 0 ≤ z ∧ z < w ∧ f z = d) : ∃ z, 0 ≤ z ∧ z < w' ∧ f' z = d := by
  obtain ⟨z, z0, z1, zd⟩ := h
  obtain ⟨x, y, h1, h2, h3, h4, h5, h6, h7⟩ := k.run z z0 z1
  exact ⟨x, h1, h2, by rw [k.eq x h1 h2, h7 (φ x) (Int.le_refl _) (by omega), zd]⟩
theorem Kp.all (k : Kp w f w' f' φ) {b : Bool} (x0 : 0 ≤ x) (x1 : x < w') :
    (∀ z, 0 ≤ z → z < w' → CC.ahd b x z → f' z = f' x) ↔ ∀ z, 0 ≤ z → z < w → CC.ahd b (φ x) z → f z = f (φ x) := by
  constructor
  · intro h z z0 z1 hz
    obtain ⟨u, v, h1, h2, h3, h4, h5, h6, h7⟩ := k.run z z0 z1
    cases b with
    | true =>
      rw [ahd_t] at hz
      have := h v h3 h4 (by rw [ahd_t]; exact (k.up x v x0 x1 h3 h4).mpr (by omega))
      rw [k.eq v h3 h4, k.eq x x0 x1] at this
      rw [← this, h7 (φ v) (by omega) (Int.le_refl _)]
    | false =>
      rw [ahd_f] at hz
      have := h u h1 h2 (by rw [ahd_f]; exact (k.up u x h1 h2 x0 x1).mpr (by omega))
      rw [k.eq u h1 h2, k.eq x x0 x1] at this
      rw [← this, h7 (φ u) (Int.le_refl _) (by omega)]
  · intro h z z0 z1 hz
    rw [k.eq z z0 z1, k.eq x x0 x1]
    exact h (φ z) (k.inn z z0 z1).1 (k.inn z z0 z1).2 ((k.ahd x0 x1 z0 z1).mp hz)
theorem Kp.btw (k : Kp w f w' f' φ) {d : Bool} (x0 : 0 ≤ x) (x1 : x < w') (y0 : 0 ≤ y) (y1 : y < w') :
    (∃ z, min x y ≤ z ∧ z ≤ max x y ∧ f' z = d) ↔ ∃ z, min (φ x) (φ y) ≤ z ∧ z ≤ max (φ x) (φ y) ∧ f z = d := by
  have hx := k.inn x x0 x1
  have hy := k.inn y y0 y1
  constructor
  · rintro ⟨z, z0, z1, zd⟩
    have z2 : 0 ≤ z := by omega
    have z3 : z < w' := by omega
    refine ⟨φ z, ?_, ?_, by rw [← k.eq z z2 z3, zd]⟩
    · rcases Int.le_total x y with c | c
      · have := (k.up x z x0 x1 z2 z3).mp (by omega); omega
      · have := (k.up y z y0 y1 z2 z3).mp (by omega); omega
    · rcases Int.le_total x y with c | c
      · have := (k.up z y z2 z3 y0 y1).mp (by omega); omega
      · have := (k.up z x z2 z3 x0 x1).mp (by omega); omega
  · rintro ⟨z, z0, z1, zd⟩
    obtain ⟨u, v, h1, h2, h3, h4, h5, h6, h7⟩ := k.run z (by omega) (by omega)
    rcases Int.le_total x y with c | c
    · have hc := (k.up x y x0 x1 y0 y1).mp c
      by_cases e : φ x ≤ φ u
      · have e' := (k.up x u x0 x1 h1 h2).mpr e
        have e2 := (k.up u y h1 h2 y0 y1).mpr (by omega)
        exact ⟨u, by omega, by omega, by rw [k.eq u h1 h2, h7 (φ u) (Int.le_refl _) (by omega), zd]⟩
      · exact ⟨x, by omega, by omega, by rw [k.eq x x0 x1, h7 (φ x) (by omega) (by omega), zd]⟩
    · have hc := (k.up y x y0 y1 x0 x1).mp c
      by_cases e : φ y ≤ φ u
      · have e' := (k.up y u y0 y1 h1 h2).mpr e
        have e2 := (k.up u x h1 h2 x0 x1).mpr (by omega)
        exact ⟨u, by omega, by omega, by rw [k.eq u h1 h2, h7 (φ u) (Int.le_refl _) (by omega), zd]⟩
      · exact ⟨y, by omega, by omega, by rw [k.eq y y0 y1, h7 (φ y) (by omega) (by omega), zd]⟩
end
namespace Grid
structure Keeps (g h : Grid) (φ ψ : Int → Int) : Prop where
  x : Kp g.W g.n h.W h.n φ
  y : Kp g.H g.e h.H h.e ψ
section
variable {g h : Grid} {φ ψ : Int → Int} {p q : Int × Int}
theorem Keeps.tr (k : Keeps g h φ ψ) : Keeps g.tr h.tr ψ φ := ⟨k.y, k.x⟩
theorem Keeps.op (k : Keeps g h φ ψ) : Keeps g.op h.op φ ψ := ⟨k.x.not, k.y.not⟩
theorem Keeps.inn (k : Keeps g h φ ψ) (hp : h.In p) : g.In (φ p.1, ψ p.2) := by
  obtain ⟨h1, h2, h3, h4⟩ := hp
  exact ⟨(k.x.inn _ h1 h2).1, (k.x.inn _ h1 h2).2, (k.y.inn _ h3 h4).1, (k.y.inn _ h3 h4).2⟩
theorem Keeps.four (k : Keeps g h φ ψ) (f : g.Four) : h.Four := ⟨k.y.some f.e1, k.y.some f.e0, k.x.some f.n1, k.x.some f.n0⟩
theorem Keeps.snk (k : Keeps g h φ ψ) (hp : h.In p) : Snk h p ↔ Snk g (φ p.1, ψ p.2) := by
  obtain ⟨h1, h2, h3, h4⟩ := hp
  unfold Snk
  rw [k.x.eq _ h1 h2, k.y.eq _ h3 h4]
  have e1 := k.y.all (b := g.n (φ p.1)) h3 h4
  have e2 := k.x.all (b := g.e (ψ p.2)) h1 h2
  rw [k.y.eq _ h3 h4] at e1
  rw [k.x.eq _ h1 h2] at e2
  rw [e1, e2]
theorem Keeps.ahead (k : Keeps g h φ ψ) (hp : h.In p) (hq : h.In q) : (CC.ahd (h.e p.2) p.1 q.1 ∧ CC.ahd (h.n p.1) p.2 q.2) ↔ (CC.ahd (g.e (ψ p.2)) (φ p.1) (φ q.1) ∧ CC.ahd (g.n (φ p.1)) (ψ p.2) (ψ q.2)) := by
  obtain ⟨h1, h2, h3, h4⟩ := hp
  obtain ⟨q1, q2, q3, q4⟩ := hq
  rw [k.x.eq _ h1 h2, k.y.eq _ h3 h4, k.x.ahd h1 h2 q1 q2, k.y.ahd h3 h4 q3 q4]
theorem Keeps.rows (k : Keeps g h φ ψ) {d : Bool} (hd : ∀ y, 0 ≤ y → y < g.H → g.e y = d) (hp : h.In p) (hq : h.In q) : Rch h p q ↔ Rch g (φ p.1, ψ p.2) (φ q.1, ψ q.2) := by
  have hd' : ∀ y, 0 ≤ y → y < h.H → h.e y = d := fun y y0 y1 => by rw [k.y.eq y y0 y1]; exact hd _ (k.y.inn y y0 y1).1 (k.y.inn y y0 y1).2
  rw [reach_rows hd' hp hq, reach_rows hd (k.inn hp) (k.inn hq)]
  obtain ⟨h1, h2, h3, h4⟩ := hp
  obtain ⟨q1, q2, q3, q4⟩ := hq
  rw [k.x.ahd h1 h2 q1 q2, k.x.btw h1 h2 q1 q2, k.y.inj q3 q4 h3 h4]
  have e : decide (p.2 < q.2) = decide (ψ p.2 < ψ q.2) := by
    have := k.y.up q.2 p.2 q3 q4 h3 h4
    by_cases c : p.2 < q.2
    · have : ψ p.2 < ψ q.2 := by omega
      simp [c, this]
    · have : ¬ ψ p.2 < ψ q.2 := by omega
      simp [c, this]
  rw [e]
theorem Keeps.rch (k : Keeps g h φ ψ) (hp : h.In p) (hq : h.In q) : Rch h p q ↔ Rch g (φ p.1, ψ p.2) (φ q.1, ψ q.2) := by
  by_cases f : g.Four
  · rw [reach (k.four f) hp hq, reach f (k.inn hp) (k.inn hq)]
    have e1 := k.snk hp
    have e2 := k.op.snk (p := q) hq
    have e3 := k.ahead hp hq
    have e4 := k.op.ahead (p := q) (q := p) hq hp
    by_cases c : Snk h p
    · rw [if_pos c, if_pos (e1.mp c)]
      exact e3
    · rw [if_neg c, if_neg (fun z => c (e1.mpr z))]
      by_cases c2 : Snk h.op q
      · rw [if_pos c2, if_pos (e2.mp c2)]
        exact e4
      · rw [if_neg c2, if_neg (fun z => c2 (e2.mpr z))]
  · have f' : (∃ d, ∀ y, 0 ≤ y → y < g.H → g.e y = d) ∨ ∃ d, ∀ x, 0 ≤ x → x < g.W → g.n x = d := by
      refine Classical.byContradiction fun z => f ?_
      have z1 : ∀ d, ∃ y, 0 ≤ y ∧ y < g.H ∧ g.e y = d := fun d => Classical.byContradiction fun n => z (.inl ⟨!d, fun y y0 y1 => by
        cases q1 : g.e y <;> cases d <;> first | rfl | exact absurd ⟨y, y0, y1, q1⟩ n⟩)
      have z2 : ∀ d, ∃ x, 0 ≤ x ∧ x < g.W ∧ g.n x = d := fun d => Classical.byContradiction fun n => z (.inr ⟨!d, fun y y0 y1 => by
        cases q1 : g.n y <;> cases d <;> first | rfl | exact absurd ⟨y, y0, y1, q1⟩ n⟩)
      exact ⟨z1 true, z1 false, z2 true, z2 false⟩
    rcases f' with ⟨d, hd⟩ | ⟨d, hd⟩
    · exact k.rows hd hp hq
    · have := Keeps.rows k.tr (d := d) hd (p := sw p) (q := sw q) hp.tr hq.tr
      constructor
      · intro r
        exact Rch.of_tr (g := g) (p := (φ p.1, ψ p.2)) (q := (φ q.1, ψ q.2)) (this.mp r.tr)
      · intro r
        exact Rch.of_tr (this.mpr r.tr)
end
end Grid
def Asc (l : List Int) : Prop := l.Pairwise (· < ·)
end CC
namespace CC
open PySem PySem.Spec PyProof.Rows L2 Grid
def cutR (d : Str) (f c : Int) : List Int → Int → Runs
  | [], here => [(d, f + c - here)]
  | n :: ns, here => if f ≤ n ∧ n < f + c then (d, n - here) :: (opp d, 1) :: cutR d f c ns (n + 1) else cutR d f c ns here
def cutA : Runs → Int → List Int → Runs
  | [], _, _ => []
  | (d, c) :: r, f, ns => cutR d f c ns f ++ cutA r (f + c) ns
def jstep (acc : Runs) (p : Str × Int) : Runs := match acc.getLast? with
  | some q => if q.1 = p.1 then acc.dropLast ++ [(p.1, q.2 + p.2)] else acc ++ [p]
  | none => acc ++ [p]
def joinR (l : Runs) : Runs := l.foldl jstep []
def turnR (l : Runs) (ns : List Int) : Runs := joinR ((cutA l 0 ns).filter fun p => decide (0 < p.2))
def flipAt (l : Runs) (ns : List Int) (z : Int) : Str := if z ∈ ns then opp (signL l z) else signL l z
theorem tot0 : ∀ {l : Runs}, (∀ p ∈ l, 0 ≤ p.2) → 0 ≤ total l
  | [], _ => Int.le_refl 0
  | p :: l, h => by
    have := tot0 (l := l) fun q hq => h q (List.mem_cons_of_mem _ hq)
    have := h p List.mem_cons_self
    rw [total_cons]
    omega
theorem sign0 : ∀ {l m : Runs} {z : Int}, (∀ p ∈ l, 0 ≤ p.2) → 0 ≤ z → signL (l ++ m) z = if z < total l then signL l z else signL m (z - total l)
  | [], m, z, _, h => by
    have : total [] = 0 := rfl
    rw [this, if_neg (by omega)]
    simp
  | (d, c) :: l, m, z, h, h0 => by
    have hc : 0 ≤ c := h (d, c) List.mem_cons_self
    have hl : ∀ p ∈ l, 0 ≤ p.2 := fun p hp => h p (List.mem_cons_of_mem _ hp)
    have tl := tot0 hl
    show (if z < c then d else signL (l ++ m) (z - c)) = if z < total ((d, c) :: l) then (if z < c then d else signL l (z - c)) else _
    rw [total_cons]
    show _ = if z < c + total l then (if z < c then d else signL l (z - c)) else signL m (z - (c + total l))
    by_cases k : z < c
    · rw [if_pos k, if_pos (by omega), if_pos k]
    · rw [if_neg k, sign0 hl (by omega)]
      by_cases k2 : z - c < total l
      · rw [if_pos k2, if_pos (by omega), if_neg k]
      · rw [if_neg k2, if_neg (by omega)]
        congr 1
        omega
theorem sg_cons {d : Str} {c z : Int} {l : Runs} : signL ((d, c) :: l) z = if z < c then d else signL l (z - c) := rfl
theorem cutR_ok {d : Str} {f c : Int} : ∀ {ns : List Int} {here : Int}, f ≤ here → here ≤ f + c → Asc ns → (∀ n ∈ ns, f ≤ n → n < f + c → here ≤ n) →
    total (cutR d f c ns here) = f + c - here ∧ (∀ p ∈ cutR d f c ns here, 0 ≤ p.2 ∧ (p.1 = d ∨ p.1 = opp d)) ∧ (∀ z, 0 ≤ z → z < f + c - here → signL (cutR d f c ns here) z = if here + z ∈ ns then opp d else d) ∧ (cutR d f c ns here).length = 1 + 2 * ns.countP (fun n => decide (f ≤ n ∧ n < f + c))
  | [], here, h0, h1, _, _ => by
    refine ⟨by show f + c - here + 0 = _; omega, fun p hp => ?_, fun z z0 z1 => ?_, by simp [cutR]⟩
    · rw [cutR, List.mem_singleton] at hp
      subst hp
      exact ⟨by show 0 ≤ f + c - here; omega, .inl rfl⟩
    · rw [cutR, sg_cons, if_pos (by omega)]
      simp
  | n :: ns, here, h0, h1, ha, hn => by
    obtain ⟨a1, a2⟩ := List.pairwise_cons.mp ha
    by_cases k : f ≤ n ∧ n < f + c
    · have k1 := hn n List.mem_cons_self k.1 k.2
      obtain ⟨i1, i2, i3, i4⟩ := cutR_ok (d := d) (f := f) (c := c) (ns := ns) (here := n + 1) (by omega) (by omega) a2 (fun m hm _ _ => by have := a1 m hm; omega)
      have e : cutR d f c (n :: ns) here = (d, n - here) :: (opp d, 1) :: cutR d f c ns (n + 1) := by rw [cutR, if_pos k]
      rw [e]
      refine ⟨?_, fun p hp => ?_, fun z z0 z1 => ?_, ?_⟩
      · rw [total_cons, total_cons, i1]
        show n - here + (1 + (f + c - (n + 1))) = f + c - here
        omega
      · rcases List.mem_cons.mp hp with rfl | hp
        · exact ⟨by show 0 ≤ n - here; omega, .inl rfl⟩
        · rcases List.mem_cons.mp hp with rfl | hp
          · exact ⟨by show (0 : Int) ≤ 1; omega, .inr rfl⟩
          · exact i2 p hp
      · rw [sg_cons, sg_cons]
        by_cases c1 : z < n - here
        · rw [if_pos c1, if_neg]
          intro hm
          rcases List.mem_cons.mp hm with e | hm
          · omega
          · have := a1 _ hm; omega
        · rw [if_neg c1]
          by_cases c2 : z - (n - here) < 1
          · rw [if_pos c2, if_pos]
            rw [List.mem_cons]
            left; omega
          · rw [if_neg c2, i3 _ (by omega) (by omega)]
            have e3 : n + 1 + (z - (n - here) - 1) = here + z := by omega
            rw [e3]
            have : (here + z ∈ n :: ns) ↔ here + z ∈ ns := by
              rw [List.mem_cons]
              constructor
              · rintro (e | e)
                · omega
                · exact e
              · exact .inr
            simp only [this]
      · rw [List.length_cons, List.length_cons, i4, List.countP_cons_of_pos (by simpa using k)]
        omega
    · obtain ⟨i1, i2, i3, i4⟩ := cutR_ok (d := d) (f := f) (c := c) (ns := ns) (here := here) h0 h1 a2 (fun m hm => hn m (List.mem_cons_of_mem _ hm))
      have e : cutR d f c (n :: ns) here = cutR d f c ns here := by rw [cutR, if_neg k]
      rw [e]
      refine ⟨i1, i2, fun z z0 z1 => ?_, ?_⟩
      · rw [i3 z z0 z1]
        have : (here + z ∈ n :: ns) ↔ here + z ∈ ns := by
          rw [List.mem_cons]
          constructor
          · rintro (e | e)
            · omega
            · exact e
          · exact .inr
        simp only [this]
      · rw [i4, List.countP_cons_of_neg (by simpa using k)]
theorem cnt_or {f c : Int} (hc : 0 ≤ c) : ∀ ns : List Int, ns.countP (fun n => decide (f ≤ n ∧ n < f + c)) + ns.countP (fun n => decide (f + c ≤ n)) ≤ ns.countP (fun n => decide (f ≤ n))
  | [] => by simp
  | n :: ns => by
    have := cnt_or (f := f) hc ns
    simp only [List.countP_cons]
    generalize ns.countP (fun n => decide (f ≤ n ∧ n < f + c)) = A at this ⊢
    by_cases h1 : f ≤ n
    · by_cases h2 : n < f + c
      · have h3 : ¬ f + c ≤ n := by omega
        simp [h1, h2, h3]; omega
      · have h3 : f + c ≤ n := by omega
        simp [h1, h2, h3]; omega
    · have h3 : ¬ f + c ≤ n := by omega
      simp [h1, h3]; omega
theorem cutA_ok : ∀ {l : Runs} {f : Int} {ns : List Int}, (∀ p ∈ l, 1 ≤ p.2) → Asc ns →
    total (cutA l f ns) = total l ∧ (∀ p ∈ cutA l f ns, 0 ≤ p.2 ∧ ∃ q ∈ l, p.1 = q.1 ∨ p.1 = opp q.1) ∧ (∀ z, 0 ≤ z → z < total l → signL (cutA l f ns) z = if f + z ∈ ns then opp (signL l z) else signL l z) ∧ (cutA l f ns).length ≤ l.length + 2 * ns.countP (fun n => decide (f ≤ n))
  | [], f, ns, _, _ => by
    refine ⟨rfl, fun p hp => (by cases hp), fun z z0 z1 => ?_, by simp [cutA]⟩
    have : total [] = 0 := rfl
    omega
  | (d, c) :: r, f, ns, hp, ha => by
    have hc : 1 ≤ c := hp (d, c) List.mem_cons_self
    obtain ⟨i1, i2, i3, i4⟩ := cutA_ok (l := r) (f := f + c) (ns := ns) (fun p h => hp p (List.mem_cons_of_mem _ h)) ha
    obtain ⟨j1, j2, j3, j4⟩ := cutR_ok (d := d) (f := f) (c := c) (ns := ns) (here := f) (Int.le_refl _) (by omega) ha (fun n _ h _ => h)
    have e : cutA ((d, c) :: r) f ns = cutR d f c ns f ++ cutA r (f + c) ns := rfl
    rw [e]
    refine ⟨?_, fun p hp => ?_, fun z z0 z1 => ?_, ?_⟩
    · rw [total_append, i1, j1, total_cons]
      show f + c - f + total r = c + total r
      omega
    · rcases List.mem_append.mp hp with h | h
      · exact ⟨(j2 p h).1, (d, c), List.mem_cons_self, (j2 p h).2⟩
      · obtain ⟨k1, q, hq, k2⟩ := i2 p h
        exact ⟨k1, q, List.mem_cons_of_mem _ hq, k2⟩
    · rw [total_cons] at z1
      have z1' : z < c + total r := z1
      rw [sign0 (fun p hp => (j2 p hp).1) z0, j1, sg_cons]
      by_cases k : z < c
      · rw [if_pos (by omega), if_pos k, j3 z z0 (by omega)]
      · rw [if_neg (by omega), if_neg k]
        have e1 : z - (f + c - f) = z - c := by omega
        have e2 : f + c + (z - c) = f + z := by omega
        rw [e1, i3 (z - c) (by omega) (by omega), e2]
    · rw [List.length_append, j4, List.length_cons]
      have := cnt_or (f := f) (c := c) (by omega) ns
      omega
theorem filt_total : ∀ {l : Runs}, (∀ p ∈ l, 0 ≤ p.2) → total (l.filter fun p => decide (0 < p.2)) = total l
  | [], _ => rfl
  | p :: l, h => by
    have ih := filt_total (l := l) fun q hq => h q (List.mem_cons_of_mem _ hq)
    have := h p List.mem_cons_self
    by_cases k : 0 < p.2
    · rw [List.filter_cons_of_pos (by simpa using k), total_cons, total_cons, ih]
    · rw [List.filter_cons_of_neg (by simpa using k), total_cons, ih]
      omega
theorem filt_sign : ∀ {l : Runs} {z : Int}, (∀ p ∈ l, 0 ≤ p.2) → 0 ≤ z → signL (l.filter fun p => decide (0 < p.2)) z = signL l z
  | [], _, _, _ => rfl
  | (d, c) :: l, z, h, z0 => by
    have hl : ∀ p ∈ l, 0 ≤ p.2 := fun q hq => h q (List.mem_cons_of_mem _ hq)
    have hc : 0 ≤ c := h (d, c) List.mem_cons_self
    by_cases k : 0 < c
    · rw [List.filter_cons_of_pos (by simpa using k), sg_cons, sg_cons]
      by_cases k2 : z < c
      · rw [if_pos k2, if_pos k2]
      · rw [if_neg k2, if_neg k2, filt_sign hl (by omega)]
    · rw [List.filter_cons_of_neg (by simpa using k), sg_cons, if_neg (by omega), filt_sign hl z0]
      congr 1
      omega
structure JOk (acc : Runs) (dn : Runs) : Prop where
  tot : total acc = total dn
  pos : ∀ p ∈ acc, 1 ≤ p.2
  mem : ∀ p ∈ acc, ∃ q ∈ dn, p.1 = q.1
  dif : Dif acc
  sgn : ∀ z, 0 ≤ z → signL acc z = signL dn z
  len : acc.length ≤ dn.length
  ne : dn ≠ [] → acc ≠ []
theorem Dif.snoc {l : Runs} {p : Str × Int} (h : Dif l) (e : ∀ q, l.getLast? = some q → q.1 ≠ p.1) : Dif (l ++ [p]) := by
  intro i x y hx hy
  have hl : i + 1 < (l ++ [p]).length := (List.getElem?_eq_some_iff.mp hy).1
  rw [List.length_append, List.length_singleton] at hl
  rw [List.getElem?_append_left (by omega)] at hx
  by_cases c : i + 1 < l.length
  · rw [List.getElem?_append_left c] at hy
    exact h i x y hx hy
  · have e1 : i + 1 = l.length := by omega
    rw [e1, List.getElem?_append_right (Nat.le_refl _)] at hy
    simp at hy
    subst hy
    refine e x ?_
    rw [List.getLast?_eq_getElem?, ← e1]
    exact hx
theorem Dif.left {l m : Runs} (h : Dif (l ++ m)) : Dif l := by
  intro i x y hx hy
  have h1 := (List.getElem?_eq_some_iff.mp hx).1
  have h2 := (List.getElem?_eq_some_iff.mp hy).1
  exact h i x y (by rw [List.getElem?_append_left h1]; exact hx) (by rw [List.getElem?_append_left h2]; exact hy)
theorem Dif.lastN {l : Runs} {p q : Str × Int} (h : Dif (l ++ [p])) (hq : l.getLast? = some q) : q.1 ≠ p.1 := by
  have hl : l ≠ [] := by intro e; subst e; cases hq
  have hp : 0 < l.length := List.length_pos_iff.mpr hl
  refine h (l.length - 1) q p ?_ ?_
  · rw [List.getElem?_append_left (by omega), ← List.getLast?_eq_getElem?]
    exact hq
  · have e : l.length - 1 + 1 = l.length := by omega
    rw [e, List.getElem?_append_right (Nat.le_refl _)]
    simp
theorem last_split {l : Runs} {q : Str × Int} (h : l.getLast? = some q) : l = l.dropLast ++ [q] := by
  have hl : l ≠ [] := by intro e; subst e; cases h
  have e := List.dropLast_concat_getLast hl
  rw [List.getLast?_eq_some_getLast hl] at h
  rw [← Option.some.inj h]
  exact e.symm
theorem jstep_ok {acc dn : Runs} {p : Str × Int} (h : JOk acc dn) (hd : ∀ q ∈ dn, 0 ≤ q.2) (hp : 1 ≤ p.2) : JOk (jstep acc p) (dn ++ [p]) := by
  have tp : total [p] = p.2 := by show p.2 + 0 = p.2; omega
  have a0 : ∀ q ∈ acc, 0 ≤ q.2 := fun q hq => by have := h.pos q hq; omega
  have new : ∀ (_ : ∀ q, acc.getLast? = some q → q.1 ≠ p.1), JOk (acc ++ [p]) (dn ++ [p]) := fun hq =>
    ⟨by rw [total_append, total_append, h.tot], fun q hq => by
        rcases List.mem_append.mp hq with k | k
        · exact h.pos q k
        · rw [List.mem_singleton.mp k]; exact hp,
      fun q hq => by
        rcases List.mem_append.mp hq with k | k
        · obtain ⟨r, hr, e⟩ := h.mem q k
          exact ⟨r, List.mem_append_left _ hr, e⟩
        · exact ⟨p, by simp, by rw [List.mem_singleton.mp k]⟩,
      h.dif.snoc hq, fun z z0 => by rw [sign0 a0 z0, sign0 hd z0, h.tot, h.sgn z z0], by rw [List.length_append, List.length_append]; have := h.len; omega, fun _ => by simp⟩
  unfold jstep
  cases hg : acc.getLast? with
  | none => exact new fun q hq => by rw [hg] at hq; cases hq
  | some q =>
    show JOk (if q.1 = p.1 then acc.dropLast ++ [(p.1, q.2 + p.2)] else acc ++ [p]) _
    by_cases c : q.1 = p.1
    · rw [if_pos c]
      have hs := last_split hg
      generalize acc.dropLast = m at hs ⊢
      subst hs
      have m0 : ∀ r ∈ m, 0 ≤ r.2 := fun r hr => a0 r (List.mem_append_left _ hr)
      have q1 := h.pos q (by simp)
      have tq : total [q] = q.2 := by show q.2 + 0 = q.2; omega
      have tqp : total [(p.1, q.2 + p.2)] = q.2 + p.2 := by show q.2 + p.2 + 0 = _; omega
      have ht := h.tot
      rw [total_append, tq] at ht
      refine ⟨by rw [total_append, total_append, tqp, tp]; omega, fun r hr => ?_, fun r hr => ?_, ?_, fun z z0 => ?_, ?_, fun _ => by simp⟩
      · rcases List.mem_append.mp hr with k | k
        · exact h.pos r (List.mem_append_left _ k)
        · rw [List.mem_singleton.mp k]; show 1 ≤ q.2 + p.2; omega
      · rcases List.mem_append.mp hr with k | k
        · obtain ⟨s, hs, e⟩ := h.mem r (List.mem_append_left _ k)
          exact ⟨s, List.mem_append_left _ hs, e⟩
        · exact ⟨p, by simp, by rw [List.mem_singleton.mp k]⟩
      · refine h.dif.left.snoc fun r hr => ?_
        have := h.dif.lastN hr
        rw [c] at this
        exact this
      · have hz := h.sgn z z0
        rw [sign0 hd z0, ← hz, sign0 m0 z0]
        rw [sign0 m0 z0]
        by_cases k : z < total m
        · rw [if_pos k, if_pos k, if_pos (by omega)]
        · rw [if_neg k, if_neg k]
          obtain ⟨dq, cq⟩ := q
          obtain ⟨dp, cp⟩ := p
          simp only at c ht hp q1
          subst c
          show (if z - total m < cq + cp then dq else signL [] (z - total m - (cq + cp))) = if z < total dn then (if z - total m < cq then dq else signL [] (z - total m - cq)) else (if z - total dn < cp then dq else signL [] (z - total dn - cp))
          by_cases k2 : z < total dn
          · rw [if_pos (by omega), if_pos k2, if_pos (by omega)]
          · rw [if_neg k2]
            by_cases k3 : z - total dn < cp
            · rw [if_pos k3, if_pos (by omega)]
            · rw [if_neg k3, if_neg (by omega)]
              rfl
      · have := h.len
        rw [List.length_append, List.length_singleton] at this
        rw [List.length_append, List.length_append, List.length_singleton, List.length_singleton]
        omega
    · rw [if_neg c]
      exact new fun r hr => by rw [hg] at hr; cases hr; exact c
theorem join_ok {l : Runs} (h : ∀ p ∈ l, 1 ≤ p.2) : JOk (joinR l) l := by
  have key : ∀ (r acc dn : Runs), JOk acc dn → (∀ p ∈ dn, 1 ≤ p.2) → (∀ p ∈ r, 1 ≤ p.2) → JOk (r.foldl jstep acc) (dn ++ r) := by
    intro r
    induction r with
    | nil => intro acc dn h _ _; simpa using h
    | cons p r ih =>
      intro acc dn h hd hr
      have := ih (jstep acc p) (dn ++ [p]) (jstep_ok h (fun q hq => by have := hd q hq; omega) (hr p List.mem_cons_self)) (fun q hq => by
        rcases List.mem_append.mp hq with k | k
        · exact hd q k
        · rw [List.mem_singleton.mp k]; exact hr p List.mem_cons_self) (fun q hq => hr q (List.mem_cons_of_mem _ hq))
      rw [List.append_assoc] at this
      exact this
  have := key l [] [] ⟨rfl, (fun p hp => by cases hp), (fun p hp => by cases hp), (fun i p q h => by simp at h), (fun _ _ => rfl), Nat.le_refl _, (fun h => absurd rfl h)⟩ (fun p hp => by cases hp) h
  simpa [joinR] using this
structure TOk (A B : Str) (l : Runs) (ns : List Int) (r : Runs) : Prop where
  ok : okR A B r = true
  tot : total r = total l
  sgn : ∀ z, 0 ≤ z → z < total l → signL r z = flipAt l ns z
  len : r.length ≤ l.length + 2 * ns.length
theorem turn_ok {A B : Str} {l : Runs} {ns : List Int} (o : okR A B l = true) (ha : Asc ns) (hA : opp A = B) (hB : opp B = A) : TOk A B l ns (turnR l ns) := by
  obtain ⟨i1, i2, i3, i4⟩ := cutA_ok (f := 0) (ns := ns) (ok_pos o) ha
  have c0 : ∀ p ∈ cutA l 0 ns, 0 ≤ p.2 := fun p hp => (i2 p hp).1
  have j := join_ok (l := (cutA l 0 ns).filter fun p => decide (0 < p.2)) fun p hp => by
    have := (List.mem_filter.mp hp).2
    have h : 0 < p.2 := by simpa using this
    omega
  have e1 := filt_total c0
  have tl := total_pos o
  have ne : (cutA l 0 ns).filter (fun p => decide (0 < p.2)) ≠ [] := by
    intro e
    rw [e, i1] at e1
    have : total [] = 0 := rfl
    omega
  refine ⟨?_, by show total (joinR _) = _; rw [j.tot, e1, i1], fun z z0 z1 => ?_, ?_⟩
  · unfold okR
    rw [Bool.and_eq_true, Bool.and_eq_true]
    refine ⟨⟨?_, ?_⟩, dif_ascR j.dif⟩
    · have := j.ne ne
      unfold turnR
      cases hr : joinR ((cutA l 0 ns).filter fun p => decide (0 < p.2)) with
      | nil => exact absurd hr this
      | cons _ _ => rfl
    · refine List.all_eq_true.mpr fun p hp => ?_
      have h1 := j.pos p hp
      obtain ⟨q, hq, e⟩ := j.mem p hp
      obtain ⟨_, r, hr, e2⟩ := i2 q (List.mem_filter.mp hq).1
      have hrl := (okR_mem o hr).1
      have : p.1 = A ∨ p.1 = B := by
        rw [e]
        rcases e2 with e2 | e2 <;> rcases hrl with e3 | e3 <;> rw [e2, e3]
        · exact .inl rfl
        · exact .inr rfl
        · exact .inr hA
        · exact .inl hB
      rcases this with e | e <;> simp [e, h1]
  · show signL (joinR _) z = _
    rw [j.sgn z z0, filt_sign c0 z0, i3 z z0 z1, Int.zero_add]
    rfl
  · have h1 := j.len
    have h2 := List.length_filter_le (fun p : Str × Int => decide (0 < p.2)) (cutA l 0 ns)
    have h3 := List.countP_le_length (p := fun n : Int => decide (0 ≤ n)) (l := ns)
    show (joinR _).length ≤ _
    omega
theorem cut_ext {S J0 J : List SO} {b : Bool} : ∃ G1, cutS (S ++ J0) b (S ++ J) = S ++ G1 := by
  unfold cutS
  split
  · refine ⟨J.take J0.length, ?_⟩
    rw [List.length_append, List.take_append, List.take_of_length_le (by omega)]
    congr 1
    congr 1
    omega
  · exact ⟨J, rfl⟩
theorem fz_any {i m : Nat} {S J0 J : Sto} {ρ : Env} {p : Po} {ds : List D} (h : ρ[i]?.bind id = some (.loc m)) (e : (S ++ J)[m]? = some (.lst ds)) (hm : S.length ≤ m) (hp : ∀ G1, p.nx (ρ.set i (some (.fl ds))) (S ++ G1)) : Ws (fzE i (S ++ J0) ρ (S ++ J)) p := by
  rw [fz_at h e, List.set_append_right _ _ hm]
  obtain ⟨G1, eG⟩ := cut_ext (S := S) (J0 := J0) (J := J.set (m - S.length) (.frz ds)) (b := envLt (S ++ J0).length (ρ.set i (some (.fl ds))))
  rw [eG]
  exact hp G1
theorem fz_any0 {i m : Nat} {S J : Sto} {ρ : Env} {p : Po} {ds : List D} (h : ρ[i]?.bind id = some (.loc m)) (e : (S ++ J)[m]? = some (.lst ds)) (hm : S.length ≤ m) (hp : ∀ G1, p.nx (ρ.set i (some (.fl ds))) (S ++ G1)) : Ws (fzE i S ρ (S ++ J)) p := by
  have := fz_any (J0 := []) h e hm hp
  rwa [List.append_nil] at this
theorem isort_perm' : ∀ {l : List Int}, (isort l).Perm l
  | [] => .refl _
  | x :: l => by
    have key : ∀ (x : Int) (l : List Int), (insI x l).Perm (x :: l) := by
      intro x l
      induction l with
      | nil => exact .refl _
      | cons y l ih =>
        show (if x ≤ y then x :: y :: l else y :: insI x l).Perm _
        split
        · exact .refl _
        · exact (ih.cons y).trans (.swap x y l)
    exact (key x (isort l)).trans (isort_perm'.cons x)
theorem isort_le : ∀ {l : List Int}, (isort l).Pairwise (· ≤ ·)
  | [] => .nil
  | x :: l => by
    have key : ∀ (x : Int) (l : List Int), l.Pairwise (· ≤ ·) → (insI x l).Pairwise (· ≤ ·) ∧ ∀ z ∈ insI x l, z = x ∨ z ∈ l := by
      intro x l
      induction l with
      | nil => intro _; exact ⟨List.pairwise_singleton _ _, fun z hz => .inl (List.mem_singleton.mp hz)⟩
      | cons y l ih =>
        intro h
        obtain ⟨h1, h2⟩ := List.pairwise_cons.mp h
        obtain ⟨i1, i2⟩ := ih h2
        have e : insI x (y :: l) = if x ≤ y then x :: y :: l else y :: insI x l := rfl
        rw [e]
        by_cases c : x ≤ y
        · rw [if_pos c]
          refine ⟨List.pairwise_cons.mpr ⟨fun z hz => ?_, h⟩, fun z hz => List.mem_cons.mp hz⟩
          rcases List.mem_cons.mp hz with rfl | hz
          · exact c
          · exact Int.le_trans c (h1 z hz)
        · rw [if_neg c]
          refine ⟨List.pairwise_cons.mpr ⟨fun z hz => ?_, i1⟩, fun z hz => ?_⟩
          · rcases i2 z hz with rfl | hz
            · omega
            · exact h1 z hz
          · rcases List.mem_cons.mp hz with rfl | hz
            · exact .inr List.mem_cons_self
            · rcases i2 z hz with e | e
              · exact .inl e
              · exact .inr (List.mem_cons_of_mem _ e)
    exact (key x (isort l) isort_le).1
theorem isort_len {l : List Int} : (isort l).length = l.length := isort_perm'.length_eq
theorem isort_asc' {l : List Int} (h : l.Nodup) : Asc (isort l) := by
  have h1 := isort_le (l := l)
  have h2 : (isort l).Nodup := isort_perm'.nodup_iff.mpr h
  unfold Asc
  refine List.pairwise_iff_getElem.mpr fun i j hi hj hij => ?_
  have a := List.pairwise_iff_getElem.mp h1 i j hi hj hij
  have b := List.pairwise_iff_getElem.mp h2 i j hi hj hij
  omega
section
variable {S : Sto} {Q : D → Sto → Prop} {E : Nat → List D → Sto → Prop} {x : D}
theorem w_ssrt {ns : List Int} (h : lstD S x = some (ns.map D.int)) (hz : ns.length < 4000) : WR (ssrtF [x] S) Q E = Q (.loc S.length) (S ++ [.lst ((usort ns).map D.int)]) := by
  have e : ssrtF [x] S = mk (.lst ((usort ns).map D.int)) S := by
    have h3 : intsOf (ns.map D.int) = some ns := by have := intsOf_map (f := fun i : Int => i) (l := ns); rwa [List.map_id'] at this
    have h2 : (lstD S x).bind intsOf = some ns := by rw [h]; exact h3
    show (match (lstD S x).bind intsOf with
      | some ns => if ns.length < 4000 then mk (.lst ((usort ns).map D.int)) S else .bad
      | none => .bad) = _
    rw [h2]
    show (if ns.length < 4000 then _ else _) = _
    rw [if_pos hz]
  rw [e, w_mk]
theorem usort_Asc {l : List Int} : Asc (usort l) := usort_asc
end
end CC
namespace CC
open PySem PySem.Spec PyProof.Rows L2
abbrev f_is_integer : Nat := 0
abbrev f_is_run : Nat := 1
abbrev f_are_runs : Nat := 2
abbrev f_is_city : Nat := 3
abbrev f_check_city : Nat := 4
abbrev f_count_streets : Nat := 5
abbrev f_flipped : Nat := 6
abbrev f_joined : Nat := 7
abbrev f_street_run : Nat := 8
abbrev f_is_street : Nat := 9
abbrev f_check_street : Nat := 10
abbrev f_grid_size : Nat := 11
abbrev f_direction_of : Nat := 12
abbrev f_street_direction : Nat := 13
abbrev f_turned_runs : Nat := 14
abbrev f_turned_city : Nat := 15
abbrev f_reversed_city : Nat := 16
abbrev f__law_source : Nat := 17
abbrev f__law_draw : Nat := 18
abbrev f__law_runs : Nat := 19
abbrev f__law_town : Nat := 20
abbrev f__law_streets : Nat := 21
abbrev f__law_packed : Nat := 22
abbrev f__law_city_of : Nat := 23
abbrev f__law_turned : Nat := 24
abbrev f__law_sign : Nat := 25
abbrev f__law_some : Nat := 26
abbrev f__law_right : Nat := 27
abbrev f__law_small_right : Nat := 28
abbrev f__law_large_right : Nat := 29
abbrev f__law_many_right : Nat := 30
abbrev f_law : Nat := 31
abbrev tb_OPPOSITE : List (Str × D) := [("E", .str "W"), ("W", .str "E"), ("N", .str "S"), ("S", .str "N")]
def bd_is_integer : Sx := (.cons (.ret (.and (.bi .isinst (.cons (.var 0) (.cons (.tyc "int") .nil))) (.and (.nt (.bi .isinst (.cons (.var 0) (.cons (.tyc
  "bool") .nil)))) (.cmp .GtE (.var 0) (.var 1))))) .nil)
def bd_is_run : Sx := (.cons (.iff (.or (.nt (.bi .isinst (.cons (.var 0) (.cons (.tyc "tuple") .nil)))) (.cmp .NotEq (.bi .len (.cons (.var 0) .nil)) (.int
  2))) (.cons (.ret (.bl false)) .nil) .nil) (.cons (.ret (.and (.bi .isinst (.cons (.ix (.var 0) (.int 0)) (.cons (.tyc "str") .nil))) (.and (.cmp .In (.ix
  (.var 0) (.int 0)) (.var 1)) (.call 0 (.cons (.ix (.var 0) (.int 1)) (.cons (.int 1) .nil)))))) .nil))
def bd_are_runs : Sx := (.cons (.iff (.or (.nt (.bi .isinst (.cons (.var 0) (.cons (.tyc "tuple") .nil)))) (.or (.cmp .Eq (.bi .len (.cons (.var 0) .nil))
  (.int 0)) (.nt (.bi .all (.cons (.frzv (.lc (.itr (.var 0)) (.var 4) (.call 1 (.cons (.var 4) (.cons (.var 1) .nil))) (.bl true) [4])) .nil))))) (.cons (.ret
  (.bl false)) .nil) .nil) (.cons (.ret (.bi .all (.cons (.frzv (.lc (.zip2 (.var 0) (.frzv (.sl (.var 0) (.cons (.int 1) .nil) .nil))) (.tup (.cons (.var 2)
  (.cons (.var 3) .nil))) (.cmp .NotEq (.ix (.var 2) (.int 0)) (.ix (.var 3) (.int 0))) (.bl true) [2, 3])) .nil))) .nil))
def bd_is_city : Sx := (.cons (.iff (.or (.nt (.bi .isinst (.cons (.var 0) (.cons (.tyc "tuple") .nil)))) (.cmp .NotEq (.bi .len (.cons (.var 0) .nil)) (.int
  2))) (.cons (.ret (.bl false)) .nil) .nil) (.cons (.ret (.and (.call 2 (.cons (.ix (.var 0) (.int 0)) (.cons (.tup (.cons (.glo 0) (.cons (.glo 1) .nil)))
  .nil))) (.call 2 (.cons (.ix (.var 0) (.int 1)) (.cons (.tup (.cons (.glo 2) (.cons (.glo 3) .nil))) .nil))))) .nil))
def bd_check_city : Sx := (.cons (.iff (.nt (.call 3 (.cons (.var 0) .nil))) (.cons (.rse 1 .nil) .nil) .nil) .nil)
def bd_count_streets : Sx := (.cons (.ret (.bi .sum (.cons (.frzv (.lc (.itr (.var 0)) (.tup (.cons (.var 1) (.cons (.var 2) .nil))) (.var 2) (.bl true) [1,
  2])) .nil))) .nil)
def bd_flipped : Sx := (.cons (.ret (.gdx tb_OPPOSITE (.var 0))) .nil)
def bd_joined : Sx := (.cons (.asg (.var 1) (.lst .nil)) (.cons (.fz 1 (.for_ (.tup (.cons (.var 2) (.cons (.var 3) .nil))) (.itr (.var 0)) (.cons (.iff (.and
  (.cmp .NotEq (.var 1) (.frzv (.lst .nil))) (.cmp .Eq (.ix (.ix (.var 1) (.neg (.int 1))) (.int 0)) (.var 2))) (.cons (.asg (.ix (.var 1) (.neg (.int 1)))
  (.tup (.cons (.var 2) (.cons (.bin .Add (.ix (.ix (.var 1) (.neg (.int 1))) (.int 1)) (.var 3)) .nil)))) .nil) (.cons (.ex (.mt .append (.var 1) (.cons (.tup
  (.cons (.var 2) (.cons (.var 3) .nil))) .nil))) .nil)) .nil))) (.cons (.ret (.bi .tuple (.cons (.var 1) .nil))) .nil)))
def bd_street_run : Sx := (.cons (.asg (.var 2) (.int 0)) (.cons (.for_ (.tup (.cons (.var 3) (.cons (.var 4) .nil))) (.itr (.var 0)) (.cons (.iff (.cmp .Lt
  (.var 1) (.bin .Add (.var 2) (.var 4))) (.cons (.ret (.tup (.cons (.var 3) (.cons (.var 2) (.cons (.bin .Sub (.bin .Add (.var 2) (.var 4)) (.int 1))
  .nil))))) .nil) .nil) (.cons (.aug 2 .Add (.var 4)) .nil))) (.cons (.ret .non) .nil)))
def bd_is_street : Sx := (.cons (.iff (.or (.nt (.bi .isinst (.cons (.var 1) (.cons (.tyc "tuple") .nil)))) (.or (.cmp .NotEq (.bi .len (.cons (.var 1) .nil))
  (.int 2)) (.nt (.bi .isinst (.cons (.ix (.var 1) (.int 0)) (.cons (.tyc "str") .nil)))))) (.cons (.ret (.bl false)) .nil) .nil) (.cons (.iff (.or (.cmp
  .NotIn (.ix (.var 1) (.int 0)) (.tup (.cons (.glo 4) (.cons (.glo 5) .nil)))) (.nt (.call 0 (.cons (.ix (.var 1) (.int 1)) (.cons (.int 0) .nil))))) (.cons
  (.ret (.bl false)) .nil) .nil) (.cons (.ret (.cmp .Lt (.ix (.var 1) (.int 1)) (.call 5 (.cons (.ix (.var 0) (.bi .int (.cons (.cmp .Eq (.ix (.var 1) (.int
  0)) (.glo 5)) .nil))) .nil)))) .nil)))
def bd_check_street : Sx := (.cons (.iff (.nt (.call 9 (.cons (.var 0) (.cons (.var 1) .nil)))) (.cons (.rse 2 .nil) .nil) .nil) .nil)
def bd_grid_size : Sx := (.cons (.ex (.call 4 (.cons (.var 0) .nil))) (.cons (.ret (.tup (.cons (.call 5 (.cons (.ix (.var 0) (.int 1)) .nil)) (.cons (.call 5
  (.cons (.ix (.var 0) (.int 0)) .nil)) .nil)))) .nil))
def bd_direction_of : Sx := (.cons (.ret (.ix (.call 8 (.cons (.ix (.var 0) (.bi .int (.cons (.cmp .Eq (.ix (.var 1) (.int 0)) (.glo 5)) .nil))) (.cons (.ix
  (.var 1) (.int 1)) .nil))) (.int 0))) .nil)
def bd_street_direction : Sx := (.cons (.ex (.call 4 (.cons (.var 0) .nil))) (.cons (.ex (.call 10 (.cons (.var 0) (.cons (.var 1) .nil)))) (.cons (.ret (.call
  12 (.cons (.var 0) (.cons (.var 1) .nil)))) .nil)))
def bd_turned_runs : Sx := (.cons (.asg (.var 2) (.lst .nil)) (.cons (.asg (.var 3) (.int 0)) (.cons (.fz 2 (.for_ (.tup (.cons (.var 4) (.cons (.var 5)
  .nil))) (.itr (.var 0)) (.cons (.asg (.var 6) (.var 3)) (.cons (.for_ (.var 7) (.itr (.var 1)) (.cons (.iff (.cmp2 .LtE .Lt (.var 3) (.var 7) (.bin .Add
  (.var 3) (.var 5))) (.cons (.asg (.var 2) (.bin .Add (.var 2) (.frzv (.lst (.cons (.tup (.cons (.var 4) (.cons (.bin .Sub (.var 7) (.var 6)) .nil))) (.cons
  (.tup (.cons (.call 6 (.cons (.var 4) .nil)) (.cons (.int 1) .nil))) .nil)))))) (.cons (.asg (.var 6) (.bin .Add (.var 7) (.int 1))) .nil)) .nil) .nil))
  (.cons (.aug 3 .Add (.var 5)) (.cons (.ex (.mt .append (.var 2) (.cons (.tup (.cons (.var 4) (.cons (.bin .Sub (.var 3) (.var 6)) .nil))) .nil))) .nil))))))
  (.cons (.ret (.call 7 (.cons (.frzv (.lc (.itr (.var 2)) (.var 8) (.var 8) (.cmp .Gt (.ix (.var 8) (.int 1)) (.int 0)) [8])) .nil))) .nil))))
def bd_turned_city : Sx := (.cons (.asg (.var 2) (.frzv (.bi .sorted (.cons (.frzv (.lc (.itr (.var 1)) (.tup (.cons (.var 4) (.cons (.var 5) .nil))) (.var 5)
  (.cmp .Eq (.var 4) (.glo 4)) [4, 5])) .nil)))) (.cons (.asg (.var 3) (.frzv (.bi .sorted (.cons (.frzv (.lc (.itr (.var 1)) (.tup (.cons (.var 4) (.cons
  (.var 5) .nil))) (.var 5) (.cmp .Eq (.var 4) (.glo 5)) [4, 5])) .nil)))) (.cons (.ret (.tup (.cons (.call 14 (.cons (.ix (.var 0) (.int 0)) (.cons (.var 2)
  .nil))) (.cons (.call 14 (.cons (.ix (.var 0) (.int 1)) (.cons (.var 3) .nil))) .nil)))) .nil)))
def bd_reversed_city : Sx := (.cons (.ex (.call 4 (.cons (.var 0) .nil))) (.cons (.iff (.or (.nt (.bi .isinst (.cons (.var 1) (.cons (.tyc "list") .nil))))
  (.nt (.bi .all (.cons (.frzv (.lc (.itr (.var 1)) (.var 2) (.call 9 (.cons (.var 0) (.cons (.var 2) .nil))) (.bl true) [2])) .nil)))) (.cons (.rse 3 .nil)
  .nil) .nil) (.cons (.iff (.cmp .NotEq (.lset (.var 1)) (.bi .len (.cons (.var 1) .nil))) (.cons (.rse 3 .nil) .nil) .nil) (.cons (.ret (.call 15 (.cons (.var
  0) (.cons (.var 1) .nil)))) .nil))))
def bd__law_source : Sx := (.cons (.asg (.var 2) (.ife (.cmp .Lt (.var 1) (.bi .len (.cons (.var 0) .nil))) (.ix (.var 0) (.var 1)) (.int 0))) (.cons (.ret
  (.lst (.cons (.bi .max (.cons (.int 0) (.cons (.bin .Sub (.bi .abs (.cons (.var 2) .nil)) (.bin .Pow (.int 10) (.int 18))) .nil))) (.cons (.bin .Add (.bin
  .Mod (.var 2) (.bin .Add (.bin .Pow (.int 10) (.int 40)) (.int 121))) (.bin .Mult (.int 39916801) (.var 1))) (.cons (.int 0) .nil))))) .nil))
def bd__law_draw : Sx := (.cons (.iff (.cmp .Gt (.ix (.var 0) (.int 0)) (.int 0)) (.cons (.asg (.var 2) (.bin .Mod (.ix (.var 0) (.int 0)) (.var 1))) (.cons
  (.asg (.ix (.var 0) (.int 0)) (.bin .FloorDiv (.ix (.var 0) (.int 0)) (.var 1))) (.cons (.ret (.var 2)) .nil))) .nil) (.cons (.asg (.ix (.var 0) (.int 2))
  (.bin .Add (.ix (.var 0) (.int 2)) (.int 1))) (.cons (.asg (.var 3) (.bin .Mod (.bin .Pow (.bin .Add (.ix (.var 0) (.int 1)) (.bin .Mult (.int 179424673)
  (.ix (.var 0) (.int 2)))) (.int 3)) (.bin .Add (.bin .Pow (.int 10) (.int 41)) (.int 37)))) (.cons (.asg (.var 3) (.bin .Mod (.bin .Pow (.bin .Add (.var 3)
  (.bin .Mult (.int 22801763489) (.ix (.var 0) (.int 2)))) (.int 3)) (.bin .Add (.bin .Pow (.int 10) (.int 40)) (.int 121)))) (.cons (.ret (.bin .Mod (.bin
  .FloorDiv (.var 3) (.int 262147)) (.var 1))) .nil)))))
def bd__law_runs : Sx := (.cons (.par [4, 5] (.cons (.call 18 (.cons (.var 0) (.cons (.int 2) .nil))) (.cons (.lst .nil) .nil))) (.cons (.fz 5 (.for_ (.var 6)
  (.rng1 (.bin .Add (.int 1) (.call 18 (.cons (.var 0) (.cons (.var 2) .nil))))) (.cons (.asg (.var 7) (.ix (.frzv (.lst (.cons (.int 1) (.cons (.bin .Add
  (.int 1) (.call 18 (.cons (.var 0) (.cons (.int 3) .nil)))) (.cons (.bin .Add (.int 1) (.call 18 (.cons (.var 0) (.cons (.var 3) .nil)))) .nil))))) (.call 18
  (.cons (.var 0) (.cons (.int 3) .nil))))) (.cons (.ex (.mt .append (.var 5) (.cons (.tup (.cons (.ix (.var 1) (.bin .Mod (.bin .Add (.var 4) (.var 6)) (.int
  2))) (.cons (.var 7) .nil))) .nil))) .nil)))) (.cons (.ret (.bi .tuple (.cons (.var 5) .nil))) .nil)))
def bd__law_town : Sx := (.cons (.ret (.tup (.cons (.call 19 (.cons (.var 0) (.cons (.str "EW") (.cons (.var 1) (.cons (.var 2) .nil))))) (.cons (.call 19
  (.cons (.var 0) (.cons (.str "NS") (.cons (.var 1) (.cons (.var 2) .nil))))) .nil)))) .nil)
def bd__law_streets : Sx := (.cons (.par [3, 4, 5] (.cons (.call 18 (.cons (.var 0) (.cons (.int 4) .nil))) (.cons (.call 18 (.cons (.var 0) (.cons (.int 2)
  .nil))) (.cons (.lst .nil) .nil)))) (.cons (.for_ (.var 6) (.rng1 (.bin .Add (.int 1) (.call 18 (.cons (.var 0) (.cons (.var 2) .nil))))) (.cons (.asg (.var
  4) (.ix (.frzv (.lst (.cons (.call 18 (.cons (.var 0) (.cons (.int 2) .nil))) (.cons (.bin .Mod (.bin .Add (.var 4) (.bi .int (.cons (.cmp .Eq (.call 18
  (.cons (.var 0) (.cons (.int 4) .nil))) (.int 0)) .nil))) (.int 2)) (.cons (.var 4) (.cons (.bin .Sub (.int 1) (.var 4)) .nil)))))) (.var 3))) (.cons (.ex
  (.mt .append (.var 5) (.cons (.ix (.var 1) (.var 4)) .nil))) .nil))) (.cons (.ret (.var 5)) .nil)))
def bd__law_packed : Sx := (.cons (.asg (.var 1) (.lst .nil)) (.cons (.fz 1 (.for_ (.var 2) (.itr (.var 0)) (.cons (.iff (.and (.cmp .NotEq (.var 1) (.frzv
  (.lst .nil))) (.cmp .Eq (.ix (.ix (.var 1) (.neg (.int 1))) (.int 0)) (.var 2))) (.cons (.asg (.ix (.var 1) (.neg (.int 1))) (.tup (.cons (.var 2) (.cons
  (.bin .Add (.ix (.ix (.var 1) (.neg (.int 1))) (.int 1)) (.int 1)) .nil)))) .nil) (.cons (.ex (.mt .append (.var 1) (.cons (.tup (.cons (.var 2) (.cons (.int
  1) .nil))) .nil))) .nil)) .nil))) (.cons (.ret (.bi .tuple (.cons (.var 1) .nil))) .nil)))
def bd__law_city_of : Sx := (.cons (.ret (.tup (.cons (.call 22 (.cons (.var 0) .nil)) (.cons (.call 22 (.cons (.var 1) .nil)) .nil)))) .nil)
def bd__law_turned : Sx := (.cons (.asg (.tup (.cons (.var 2) (.cons (.var 3) .nil))) (.tup (.cons (.frzv (.lst .nil)) (.cons (.int 0) .nil)))) (.cons (.for_
  (.tup (.cons (.var 4) (.cons (.var 5) .nil))) (.itr (.var 0)) (.cons (.asg (.var 2) (.frzv (.bin .Add (.frzv (.bin .Add (.var 2) (.frzv (.lst (.cons (.var 3)
  .nil))))) (.frzv (.lc (.itr (.var 1)) (.var 10) (.var 10) (.cmp2 .LtE .Lt (.var 3) (.var 10) (.bin .Add (.var 3) (.var 5))) [10]))))) (.cons (.asg (.var 2)
  (.frzv (.bin .Add (.var 2) (.frzv (.lc (.itr (.var 1)) (.var 10) (.bin .Add (.var 10) (.int 1)) (.cmp2 .LtE .Lt (.var 3) (.var 10) (.bin .Add (.var 3) (.var
  5))) [10]))))) (.cons (.asg (.var 3) (.bin .Add (.var 3) (.var 5))) .nil)))) (.cons (.asg (.var 6) (.frzv (.prm ssrtF (.cons (.frzv (.bin .Add (.var 2)
  (.frzv (.lst (.cons (.var 3) .nil))))) .nil)))) (.cons (.asg (.var 7) (.lst .nil)) (.cons (.fz 7 (.for_ (.tup (.cons (.var 8) (.cons (.var 9) .nil))) (.zip2
  (.var 6) (.frzv (.sl (.var 6) (.cons (.int 1) .nil) .nil))) (.cons (.asg (.var 4) (.call 25 (.cons (.var 0) (.cons (.var 8) .nil)))) (.cons (.iff (.cmp .In
  (.var 8) (.var 1)) (.cons (.asg (.var 4) (.ix (.frzv (.dd (.cons (.str "E") (.cons (.str "W") (.cons (.str "W") (.cons (.str "E") (.cons (.str "N") (.cons
  (.str "S") (.cons (.str "S") (.cons (.str "N") .nil)))))))))) (.var 4))) .nil) .nil) (.cons (.iff (.and (.cmp .NotEq (.var 7) (.frzv (.lst .nil))) (.cmp .Eq
  (.ix (.ix (.var 7) (.neg (.int 1))) (.int 0)) (.var 4))) (.cons (.asg (.ix (.var 7) (.neg (.int 1))) (.tup (.cons (.var 4) (.cons (.bin .Sub (.bin .Add (.ix
  (.ix (.var 7) (.neg (.int 1))) (.int 1)) (.var 9)) (.var 8)) .nil)))) .nil) (.cons (.ex (.mt .append (.var 7) (.cons (.tup (.cons (.var 4) (.cons (.bin .Sub
  (.var 9) (.var 8)) .nil))) .nil))) .nil)) .nil))))) (.cons (.ret (.bi .tuple (.cons (.var 7) .nil))) .nil))))))
def bd__law_sign : Sx := (.cons (.asg (.var 2) (.var 1)) (.cons (.for_ (.tup (.cons (.var 3) (.cons (.var 4) .nil))) (.itr (.var 0)) (.cons (.iff (.cmp .Lt
  (.var 2) (.var 4)) (.cons (.ret (.var 3)) .nil) .nil) (.cons (.asg (.var 2) (.bin .Sub (.var 2) (.var 4))) .nil))) (.cons (.ret (.str "")) .nil)))
def bd__law_some : Sx := (.cons (.asg (.tup (.cons (.var 4) (.cons (.var 5) .nil))) (.tup (.cons (.frzv (.lst .nil)) (.cons (.int 0) .nil)))) (.cons (.for_
  (.tup (.cons (.var 6) (.cons (.var 7) .nil))) (.itr (.var 1)) (.cons (.asg (.var 4) (.frzv (.bin .Add (.var 4) (.frzv (.lst (.cons (.var 5) (.cons (.bin .Sub
  (.bin .Add (.var 5) (.var 7)) (.int 1)) (.cons (.bin .Add (.var 5) (.bi .min (.cons (.int 1) (.cons (.bin .Sub (.var 7) (.int 1)) .nil)))) .nil))))))))
  (.cons (.asg (.var 5) (.bin .Add (.var 5) (.var 7))) .nil))) (.cons (.asg (.var 4) (.frzv (.bin .Add (.var 4) (.frzv (.lc (.rng1 (.int 5)) (.var 8) (.call 18
  (.cons (.var 0) (.cons (.var 5) .nil))) (.bl true) [8]))))) (.cons (.asg (.var 9) (.lst .nil)) (.cons (.fz 9 (.for_ (.var 8) (.rng1 (.call 18 (.cons (.var 0)
  (.cons (.bin .Add (.var 3) (.int 1)) .nil)))) (.cons (.asg (.var 10) (.ix (.var 4) (.call 18 (.cons (.var 0) (.cons (.bi .len (.cons (.var 4) .nil))
  .nil))))) (.cons (.iff (.cmp .NotIn (.tup (.cons (.var 2) (.cons (.var 10) .nil))) (.var 9)) (.cons (.ex (.mt .append (.var 9) (.cons (.tup (.cons (.var 2)
  (.cons (.var 10) .nil))) .nil))) .nil) .nil) .nil)))) (.cons (.ret (.frzv (.var 9))) .nil))))))
def bd__law_right : Sx := (.cons (.asg (.var 2) (.bin .Add (.call 26 (.cons (.var 0) (.cons (.ix (.var 1) (.int 0)) (.cons (.str "row") (.cons (.int 5)
  .nil))))) (.call 26 (.cons (.var 0) (.cons (.ix (.var 1) (.int 1)) (.cons (.str "column") (.cons (.int 4) .nil))))))) (.cons (.asg (.var 2) (.lc (.rng1 (.bi
  .len (.cons (.var 2) .nil))) (.var 9) (.mt .popAt (.var 2) (.cons (.call 18 (.cons (.var 0) (.cons (.bi .len (.cons (.var 2) .nil)) .nil))) .nil)) (.bl true)
  [9])) (.cons (.for_ (.var 3) (.rng1 (.int 2)) (.cons (.asg (.var 4) (.bi .repr (.cons (.frzv (.lst (.cons (.var 1) (.cons (.var 2) .nil)))) .nil))) (.cons
  (.fz 5 (.asg (.var 5) (.lc (.itr (.var 2)) (.tup (.cons (.var 10) (.cons (.var 11) .nil))) (.var 11) (.cmp .Eq (.var 10) (.str "row")) [10, 11]))) (.cons
  (.fz 6 (.asg (.var 6) (.lc (.itr (.var 2)) (.tup (.cons (.var 10) (.cons (.var 11) .nil))) (.var 11) (.cmp .Eq (.var 10) (.str "column")) [10, 11]))) (.cons
  (.asg (.var 7) (.tup (.cons (.call 24 (.cons (.ix (.var 1) (.int 0)) (.cons (.var 5) .nil))) (.cons (.call 24 (.cons (.ix (.var 1) (.int 1)) (.cons (.var 6)
  .nil))) .nil)))) (.cons (.asg (.var 8) (.call 16 (.cons (.var 1) (.cons (.var 2) .nil)))) (.cons (.iff (.or (.cmp .NotEq (.var 8) (.var 7)) (.or (.cmp .NotEq
  (.callk 16 .nil (.cons (.var 2) (.cons (.var 1) .nil)) [1, 0]) (.var 7)) (.nt (.call 3 (.cons (.var 8) .nil))))) (.cons (.ret (.bl false)) .nil) .nil) (.cons
  (.iff (.or (.cmp .NotEq (.call 16 (.cons (.var 8) (.cons (.frzv (.rev (.var 2))) .nil))) (.var 1)) (.cmp .NotEq (.bi .repr (.cons (.frzv (.lst (.cons (.var
  1) (.cons (.var 2) .nil)))) .nil)) (.var 4))) (.cons (.ret (.bl false)) .nil) .nil) (.cons (.asg (.sl (.var 2) (.cons (.bin .FloorDiv (.bi .len (.cons (.var
  2) .nil)) (.int 2)) .nil) .nil) (.lst .nil)) .nil))))))))) (.cons (.ret (.bl true)) .nil))))
def bd__law_small_right : Sx := (.cons (.asg (.var 1) (.lst (.cons (.call 21 (.cons (.var 0) (.cons (.str "EW") (.cons (.int 14) .nil)))) (.cons (.call 21
  (.cons (.var 0) (.cons (.str "NS") (.cons (.int 14) .nil)))) .nil)))) (.cons (.asg (.var 2) (.call 23 (.cons (.ix (.var 1) (.int 0)) (.cons (.ix (.var 1)
  (.int 1)) .nil)))) (.cons (.asg (.var 3) (.bin .Add (.call 26 (.cons (.var 0) (.cons (.ix (.var 2) (.int 0)) (.cons (.str "row") (.cons (.int 5) .nil)))))
  (.call 26 (.cons (.var 0) (.cons (.ix (.var 2) (.int 1)) (.cons (.str "column") (.cons (.int 4) .nil))))))) (.cons (.for_ (.tup (.cons (.var 4) (.cons (.var
  5) .nil))) (.itr (.var 3)) (.cons (.asg (.var 6) (.ix (.var 1) (.bi .int (.cons (.cmp .Eq (.var 4) (.str "column")) .nil)))) (.cons (.asg (.ix (.var 6) (.var
  5)) (.ix (.frzv (.dd (.cons (.str "E") (.cons (.str "W") (.cons (.str "W") (.cons (.str "E") (.cons (.str "N") (.cons (.str "S") (.cons (.str "S") (.cons
  (.str "N") .nil)))))))))) (.ix (.var 6) (.var 5)))) .nil))) (.cons (.ret (.cmp .Eq (.call 16 (.cons (.var 2) (.cons (.var 3) .nil))) (.call 23 (.cons (.ix
  (.var 1) (.int 0)) (.cons (.ix (.var 1) (.int 1)) .nil))))) .nil)))))
def bd__law_large_right : Sx := (.cons (.asg (.var 1) (.call 20 (.cons (.var 0) (.cons (.int 20) (.cons (.ix (.frzv (.lst (.cons (.int 2) (.cons (.int 30)
  .nil)))) (.call 18 (.cons (.var 0) (.cons (.int 2) .nil)))) .nil))))) (.cons (.asg (.var 2) (.lst .nil)) (.cons (.for_ (.tup (.cons (.var 3) (.cons (.var 4)
  .nil))) (.enum (.frzv (.lst (.cons (.str "row") (.cons (.str "column") .nil))))) (.cons (.asg (.var 5) (.bi .sum (.cons (.frzv (.lc (.itr (.ix (.var 1) (.var
  3))) (.tup (.cons (.var 13) (.cons (.var 14) .nil))) (.var 14) (.bl true) [13, 14])) .nil))) (.cons (.asg (.var 6) (.prm lrgF (.cons (.bi .min (.cons (.var
  5) (.cons (.int 130) .nil))) .nil))) (.cons (.for_ (.var 7) (.rng1 (.bi .min (.cons (.bi .len (.cons (.var 6) .nil)) (.cons (.ix (.frzv (.lst (.cons (.int
  100) (.cons (.call 18 (.cons (.var 0) (.cons (.int 101) .nil))) .nil)))) (.call 18 (.cons (.var 0) (.cons (.int 2) .nil)))) .nil)))) (.cons (.ex (.mt .append
  (.var 2) (.cons (.tup (.cons (.var 4) (.cons (.mt .popAt (.var 6) (.cons (.call 18 (.cons (.var 0) (.cons (.bi .len (.cons (.var 6) .nil)) .nil))) .nil))
  .nil))) .nil))) .nil)) .nil)))) (.cons (.fz 2 (.asg (.var 2) (.lc (.rng1 (.bi .len (.cons (.var 2) .nil))) (.var 7) (.mt .popAt (.var 2) (.cons (.call 18
  (.cons (.var 0) (.cons (.bi .len (.cons (.var 2) .nil)) .nil))) .nil)) (.bl true) [7]))) (.cons (.fz 8 (.asg (.var 8) (.lc (.itr (.var 2)) (.tup (.cons (.var
  4) (.cons (.var 12) .nil))) (.var 12) (.cmp .Eq (.var 4) (.str "row")) [4, 12]))) (.cons (.fz 9 (.asg (.var 9) (.lc (.itr (.var 2)) (.tup (.cons (.var 4)
  (.cons (.var 12) .nil))) (.var 12) (.cmp .Eq (.var 4) (.str "column")) [4, 12]))) (.cons (.asg (.var 10) (.tup (.cons (.call 24 (.cons (.ix (.var 1) (.int
  0)) (.cons (.var 8) .nil))) (.cons (.call 24 (.cons (.ix (.var 1) (.int 1)) (.cons (.var 9) .nil))) .nil)))) (.cons (.asg (.var 11) (.call 16 (.cons (.var 1)
  (.cons (.var 2) .nil)))) (.cons (.ret (.and (.cmp .Eq (.var 11) (.var 10)) (.and (.call 3 (.cons (.var 11) .nil)) (.cmp .Eq (.call 16 (.cons (.var 11) (.cons
  (.var 2) .nil))) (.var 1))))) .nil)))))))))
def bd__law_many_right : Sx := (.cons (.asg (.tup (.cons (.var 1) (.cons (.var 2) .nil))) (.tup (.cons (.ix (.frzv (.lst (.cons (.str "row") (.cons (.str
  "column") .nil)))) (.var 0)) (.cons (.ix (.frzv (.lst (.cons (.str "EW") (.cons (.str "NS") .nil)))) (.var 0)) .nil)))) (.cons (.asg (.var 3) (.frzv (.lst
  (.cons (.tup (.cons (.tup (.cons (.ix (.var 2) (.int 0)) (.cons (.int 400) .nil))) .nil)) (.cons (.tup (.cons (.tup (.cons (.ix (.ix (.frzv (.lst (.cons
  (.str "NS") (.cons (.str "EW") .nil)))) (.var 0)) (.int 0)) (.cons (.int 2) .nil))) .nil)) .nil))))) (.cons (.asg (.var 3) (.bi .tuple (.cons (.ix (.frzv
  (.lst (.cons (.var 3) (.cons (.frzv (.rev (.var 3))) .nil)))) (.var 0)) .nil))) (.cons (.fz 4 (.asg (.var 4) (.lc (.rng1 (.int 200)) (.var 6) (.tup (.cons
  (.var 1) (.cons (.bin .Mult (.int 2) (.var 6)) .nil))) (.bl true) [6]))) (.cons (.asg (.var 5) (.call 16 (.cons (.var 3) (.cons (.var 4) .nil)))) (.cons
  (.iff (.or (.cmp .NotEq (.ix (.var 5) (.var 0)) (.bi .tuple (.cons (.frzv (.lc (.rng1 (.int 400)) (.var 6) (.tup (.cons (.ix (.var 2) (.bin .Sub (.int 1)
  (.bin .Mod (.var 6) (.int 2)))) (.cons (.int 1) .nil))) (.bl true) [6])) .nil))) (.cmp .NotEq (.ix (.var 5) (.bin .Sub (.int 1) (.var 0))) (.ix (.var 3)
  (.bin .Sub (.int 1) (.var 0))))) (.cons (.ret (.bl false)) .nil) .nil) (.cons (.iff (.or (.nt (.call 3 (.cons (.var 5) .nil))) (.cmp .NotEq (.call 11 (.cons
  (.var 5) .nil)) (.ix (.frzv (.lst (.cons (.tup (.cons (.int 2) (.cons (.int 400) .nil))) (.cons (.tup (.cons (.int 400) (.cons (.int 2) .nil))) .nil))))
  (.var 0)))) (.cons (.ret (.bl false)) .nil) .nil) (.cons (.iff (.or (.cmp .NotEq (.call 13 (.cons (.var 5) (.cons (.tup (.cons (.var 1) (.cons (.int 398)
  .nil))) .nil))) (.ix (.var 2) (.int 1))) (.cmp .NotEq (.call 13 (.cons (.var 5) (.cons (.tup (.cons (.var 1) (.cons (.int 399) .nil))) .nil))) (.ix (.var 2)
  (.int 0)))) (.cons (.ret (.bl false)) .nil) .nil) (.cons (.ret (.cmp .Eq (.call 16 (.cons (.var 5) (.cons (.frzv (.rev (.var 4))) .nil))) (.var 3)))
  .nil)))))))))
def bd_law : Sx := (.cons (.for_ (.var 1) (.rng1 (.bi .max (.cons (.int 1) (.cons (.bi .min (.cons (.int 6) (.cons (.bi .len (.cons (.var 0) .nil)) .nil)))
  .nil)))) (.cons (.asg (.var 2) (.call 17 (.cons (.var 0) (.cons (.var 1) .nil)))) (.cons (.for_ (.var 3) (.rng1 (.int 2)) (.cons (.iff (.nt (.call 28 (.cons
  (.var 2) .nil))) (.cons (.ret (.bl false)) .nil) .nil) (.cons (.iff (.nt (.call 27 (.cons (.var 2) (.cons (.call 20 (.cons (.var 2) (.cons (.ix (.frzv (.lst
  (.cons (.int 3) (.cons (.int 20) .nil)))) (.call 18 (.cons (.var 2) (.cons (.int 2) .nil)))) (.cons (.bin .Pow (.int 10) (.int 30)) .nil)))) .nil)))) (.cons
  (.ret (.bl false)) .nil) .nil) .nil))) (.cons (.iff (.and (.cmp .Eq (.var 1) (.int 0)) (.nt (.call 29 (.cons (.var 2) .nil)))) (.cons (.ret (.bl false))
  .nil) .nil) .nil)))) (.cons (.asg (.var 4) (.tup (.cons (.tup (.cons (.tup (.cons (.str "E") (.cons (.int 400) .nil))) .nil)) (.cons (.tup (.cons (.tup
  (.cons (.str "N") (.cons (.int 1) .nil))) .nil)) .nil)))) (.cons (.ret (.and (.cmp .Eq (.call 16 (.cons (.var 4) (.cons (.frzv (.lst .nil)) .nil))) (.var 4))
  (.and (.call 30 (.cons (.int 0) .nil)) (.call 30 (.cons (.int 1) .nil))))) .nil)))
def fd_is_integer : Fd := ⟨2, 2, bd_is_integer⟩
def fd_is_run : Fd := ⟨2, 2, bd_is_run⟩
def fd_are_runs : Fd := ⟨2, 5, bd_are_runs⟩
def fd_is_city : Fd := ⟨1, 1, bd_is_city⟩
def fd_check_city : Fd := ⟨1, 1, bd_check_city⟩
def fd_count_streets : Fd := ⟨1, 3, bd_count_streets⟩
def fd_flipped : Fd := ⟨1, 1, bd_flipped⟩
def fd_joined : Fd := ⟨1, 4, bd_joined⟩
def fd_street_run : Fd := ⟨2, 5, bd_street_run⟩
def fd_is_street : Fd := ⟨2, 2, bd_is_street⟩
def fd_check_street : Fd := ⟨2, 2, bd_check_street⟩
def fd_grid_size : Fd := ⟨1, 1, bd_grid_size⟩
def fd_direction_of : Fd := ⟨2, 2, bd_direction_of⟩
def fd_street_direction : Fd := ⟨2, 2, bd_street_direction⟩
def fd_turned_runs : Fd := ⟨2, 9, bd_turned_runs⟩
def fd_turned_city : Fd := ⟨2, 6, bd_turned_city⟩
def fd_reversed_city : Fd := ⟨2, 3, bd_reversed_city⟩
def fd__law_source : Fd := ⟨2, 3, bd__law_source⟩
def fd__law_draw : Fd := ⟨2, 4, bd__law_draw⟩
def fd__law_runs : Fd := ⟨4, 8, bd__law_runs⟩
def fd__law_town : Fd := ⟨3, 3, bd__law_town⟩
def fd__law_streets : Fd := ⟨3, 7, bd__law_streets⟩
def fd__law_packed : Fd := ⟨1, 3, bd__law_packed⟩
def fd__law_city_of : Fd := ⟨2, 2, bd__law_city_of⟩
def fd__law_turned : Fd := ⟨2, 11, bd__law_turned⟩
def fd__law_sign : Fd := ⟨2, 5, bd__law_sign⟩
def fd__law_some : Fd := ⟨4, 11, bd__law_some⟩
def fd__law_right : Fd := ⟨2, 12, bd__law_right⟩
def fd__law_small_right : Fd := ⟨1, 7, bd__law_small_right⟩
def fd__law_large_right : Fd := ⟨1, 15, bd__law_large_right⟩
def fd__law_many_right : Fd := ⟨1, 7, bd__law_many_right⟩
def fd_law : Fd := ⟨1, 5, bd_law⟩
def tbl : List Fd := [fd_is_integer, fd_is_run, fd_are_runs, fd_is_city, fd_check_city, fd_count_streets, fd_flipped, fd_joined, fd_street_run, fd_is_street, fd_check_street, fd_grid_size, fd_direction_of, fd_street_direction, fd_turned_runs, fd_turned_city, fd_reversed_city, fd__law_source, fd__law_draw, fd__law_runs, fd__law_town, fd__law_streets, fd__law_packed, fd__law_city_of, fd__law_turned, fd__law_sign, fd__law_some, fd__law_right, fd__law_small_right, fd__law_large_right, fd__law_many_right, fd_law]
def T : Nat → Option Fd := fun i => tbl[i]?
def nms : List Str := [("is_integer" : Str), ("is_run" : Str), ("are_runs" : Str), ("is_city" : Str), ("check_city" : Str), ("count_streets" : Str), ("flipped" : Str), ("joined" : Str), ("street_run" : Str), ("is_street" : Str), ("check_street" : Str), ("grid_size" : Str), ("direction_of" : Str), ("street_direction" : Str), ("turned_runs" : Str), ("turned_city" : Str), ("reversed_city" : Str), ("_law_source" : Str), ("_law_draw" : Str), ("_law_runs" : Str), ("_law_town" : Str), ("_law_streets" : Str), ("_law_packed" : Str), ("_law_city_of" : Str), ("_law_turned" : Str), ("_law_sign" : Str), ("_law_some" : Str), ("_law_right" : Str), ("_law_small_right" : Str), ("_law_large_right" : Str), ("_law_many_right" : Str), ("law" : Str)]
def gns : List Str := [("EAST" : Str), ("WEST" : Str), ("NORTH" : Str), ("SOUTH" : Str), ("ROW" : Str), ("COLUMN" : Str)]
def cns : List (Str × D) := [("EAST", .str "E"), ("WEST", .str "W"), ("NORTH", .str "N"), ("SOUTH", .str "S"), ("ROW", .str "row"), ("COLUMN", .str "column")]
def tbs : List (Str × List (Str × D)) := [("OPPOSITE", tb_OPPOSITE)]
def gvs : List D := [.str "E", .str "W", .str "N", .str "S", .str "row", .str "column"]
def G : Nat → Option D := fun i => gvs[i]?
def W : Nat := 2 ^ 40
noncomputable abbrev CF (k : Nat) : CallSem := callF W G T k
end CC
namespace CC
open PySem PySem.Spec PyProof.Rows L2
def topS (i : Nat) : Stmt := PySem.Challenge.pw_cornercity_k04_reversed_streets.main.body.getD i (.Pass ⟨0, 0, 0, 0⟩)
abbrev s_is_integer : Stmt := topS 13
abbrev s_is_run : Stmt := topS 14
abbrev s_are_runs : Stmt := topS 15
abbrev s_is_city : Stmt := topS 16
abbrev s_check_city : Stmt := topS 17
abbrev s_count_streets : Stmt := topS 18
abbrev s_flipped : Stmt := topS 19
abbrev s_joined : Stmt := topS 20
abbrev s_street_run : Stmt := topS 21
abbrev s_is_street : Stmt := topS 22
abbrev s_check_street : Stmt := topS 23
abbrev s_grid_size : Stmt := topS 24
abbrev s_direction_of : Stmt := topS 25
abbrev s_street_direction : Stmt := topS 26
abbrev s_turned_runs : Stmt := topS 27
abbrev s_turned_city : Stmt := topS 28
abbrev s_reversed_city : Stmt := topS 29
abbrev s__law_source : Stmt := topS 31
abbrev s__law_draw : Stmt := topS 32
abbrev s__law_runs : Stmt := topS 33
abbrev s__law_town : Stmt := topS 34
abbrev s__law_streets : Stmt := topS 35
abbrev s__law_packed : Stmt := topS 36
abbrev s__law_city_of : Stmt := topS 37
abbrev s__law_turned : Stmt := topS 38
abbrev s__law_sign : Stmt := topS 39
abbrev s__law_some : Stmt := topS 40
abbrev s__law_right : Stmt := topS 41
abbrev s__law_small_right : Stmt := topS 42
abbrev s__law_large_right : Stmt := topS 43
abbrev s__law_many_right : Stmt := topS 44
abbrev s_law : Stmt := topS 45
def d_is_integer : He.FnD := ⟨("is_integer", none), "is_integer", "is_integer", defArgs s_is_integer, defBody s_is_integer, defScope s_is_integer⟩
def d_is_run : He.FnD := ⟨("is_run", none), "is_run", "is_run", defArgs s_is_run, defBody s_is_run, defScope s_is_run⟩
def d_are_runs : He.FnD := ⟨("are_runs", none), "are_runs", "are_runs", defArgs s_are_runs, defBody s_are_runs, defScope s_are_runs⟩
def d_is_city : He.FnD := ⟨("is_city", none), "is_city", "is_city", defArgs s_is_city, defBody s_is_city, defScope s_is_city⟩
def d_check_city : He.FnD := ⟨("check_city", none), "check_city", "check_city", defArgs s_check_city, defBody s_check_city, defScope s_check_city⟩
def d_count_streets : He.FnD := ⟨("count_streets", none), "count_streets", "count_streets", defArgs s_count_streets, defBody s_count_streets, defScope s_count_streets⟩
def d_flipped : He.FnD := ⟨("flipped", none), "flipped", "flipped", defArgs s_flipped, defBody s_flipped, defScope s_flipped⟩
def d_joined : He.FnD := ⟨("joined", none), "joined", "joined", defArgs s_joined, defBody s_joined, defScope s_joined⟩
def d_street_run : He.FnD := ⟨("street_run", none), "street_run", "street_run", defArgs s_street_run, defBody s_street_run, defScope s_street_run⟩
def d_is_street : He.FnD := ⟨("is_street", none), "is_street", "is_street", defArgs s_is_street, defBody s_is_street, defScope s_is_street⟩
def d_check_street : He.FnD := ⟨("check_street", none), "check_street", "check_street", defArgs s_check_street, defBody s_check_street, defScope s_check_street⟩
def d_grid_size : He.FnD := ⟨("grid_size", none), "grid_size", "grid_size", defArgs s_grid_size, defBody s_grid_size, defScope s_grid_size⟩
def d_direction_of : He.FnD := ⟨("direction_of", none), "direction_of", "direction_of", defArgs s_direction_of, defBody s_direction_of, defScope s_direction_of⟩
def d_street_direction : He.FnD := ⟨("street_direction", none), "street_direction", "street_direction", defArgs s_street_direction, defBody s_street_direction, defScope s_street_direction⟩
def d_turned_runs : He.FnD := ⟨("turned_runs", none), "turned_runs", "turned_runs", defArgs s_turned_runs, defBody s_turned_runs, defScope s_turned_runs⟩
def d_turned_city : He.FnD := ⟨("turned_city", none), "turned_city", "turned_city", defArgs s_turned_city, defBody s_turned_city, defScope s_turned_city⟩
def d_reversed_city : He.FnD := ⟨("reversed_city", none), "reversed_city", "reversed_city", defArgs s_reversed_city, defBody s_reversed_city, defScope s_reversed_city⟩
def d__law_source : He.FnD := ⟨("_law_source", none), "_law_source", "_law_source", defArgs s__law_source, defBody s__law_source, defScope s__law_source⟩
def d__law_draw : He.FnD := ⟨("_law_draw", none), "_law_draw", "_law_draw", defArgs s__law_draw, defBody s__law_draw, defScope s__law_draw⟩
def d__law_runs : He.FnD := ⟨("_law_runs", none), "_law_runs", "_law_runs", defArgs s__law_runs, defBody s__law_runs, defScope s__law_runs⟩
def d__law_town : He.FnD := ⟨("_law_town", none), "_law_town", "_law_town", defArgs s__law_town, defBody s__law_town, defScope s__law_town⟩
def d__law_streets : He.FnD := ⟨("_law_streets", none), "_law_streets", "_law_streets", defArgs s__law_streets, defBody s__law_streets, defScope s__law_streets⟩
def d__law_packed : He.FnD := ⟨("_law_packed", none), "_law_packed", "_law_packed", defArgs s__law_packed, defBody s__law_packed, defScope s__law_packed⟩
def d__law_city_of : He.FnD := ⟨("_law_city_of", none), "_law_city_of", "_law_city_of", defArgs s__law_city_of, defBody s__law_city_of, defScope s__law_city_of⟩
def d__law_turned : He.FnD := ⟨("_law_turned", none), "_law_turned", "_law_turned", defArgs s__law_turned, defBody s__law_turned, defScope s__law_turned⟩
def d__law_sign : He.FnD := ⟨("_law_sign", none), "_law_sign", "_law_sign", defArgs s__law_sign, defBody s__law_sign, defScope s__law_sign⟩
def d__law_some : He.FnD := ⟨("_law_some", none), "_law_some", "_law_some", defArgs s__law_some, defBody s__law_some, defScope s__law_some⟩
def d__law_right : He.FnD := ⟨("_law_right", none), "_law_right", "_law_right", defArgs s__law_right, defBody s__law_right, defScope s__law_right⟩
def d__law_small_right : He.FnD := ⟨("_law_small_right", none), "_law_small_right", "_law_small_right", defArgs s__law_small_right, defBody s__law_small_right, defScope s__law_small_right⟩
def d__law_large_right : He.FnD := ⟨("_law_large_right", none), "_law_large_right", "_law_large_right", defArgs s__law_large_right, defBody s__law_large_right, defScope s__law_large_right⟩
def d__law_many_right : He.FnD := ⟨("_law_many_right", none), "_law_many_right", "_law_many_right", defArgs s__law_many_right, defBody s__law_many_right, defScope s__law_many_right⟩
def d_law : He.FnD := ⟨("law", none), "law", "law", defArgs s_law, defBody s_law, defScope s_law⟩
def fnl : List He.FnD := [d_is_integer, d_is_run, d_are_runs, d_is_city, d_check_city, d_count_streets, d_flipped, d_joined, d_street_run, d_is_street, d_check_street, d_grid_size, d_direction_of, d_street_direction, d_turned_runs, d_turned_city, d_reversed_city, d__law_source, d__law_draw, d__law_runs, d__law_town, d__law_streets, d__law_packed, d__law_city_of, d__law_turned, d__law_sign, d__law_some, d__law_right, d__law_small_right, d__law_large_right, d__law_many_right, d_law]
def fal : List He.Fa := [.glo "is_integer", .keep "is_integer", .glo "is_run", .keep "is_run", .glo "are_runs", .keep "are_runs", .glo "is_city", .keep "is_city", .glo "check_city", .keep "check_city", .glo "count_streets", .keep "count_streets", .glo "flipped", .keep "flipped", .glo "joined", .keep "joined", .glo "street_run", .keep "street_run", .glo "is_street", .keep "is_street", .glo "check_street", .keep "check_street", .glo "grid_size", .keep "grid_size", .glo "direction_of", .keep "direction_of", .glo "street_direction", .keep "street_direction", .glo "turned_runs", .keep "turned_runs", .glo "turned_city", .keep "turned_city", .glo "reversed_city", .keep "reversed_city", .glo "_law_source", .keep "_law_source", .glo "_law_draw", .keep "_law_draw", .glo "_law_runs", .keep "_law_runs", .glo "_law_town", .keep "_law_town", .glo "_law_streets", .keep "_law_streets", .glo "_law_packed", .keep "_law_packed", .glo "_law_city_of", .keep "_law_city_of", .glo "_law_turned", .keep "_law_turned", .glo "_law_sign", .keep "_law_sign", .glo "_law_some", .keep "_law_some", .glo "_law_right", .keep "_law_right", .glo "_law_small_right", .keep "_law_small_right", .glo "_law_large_right", .keep "_law_large_right", .glo "_law_many_right", .keep "_law_many_right", .glo "law", .keep "law", .free "len", .free "abs", .free "sum", .free "min", .free "max", .free "all", .free "any", .free "sorted", .free "repr", .free "int", .free "str", .free "list", .free "tuple", .free "set", .free "isinstance", .free "range", .free "zip", .free "enumerate", .free "bool", .free "dict", .free "ValueError", .glo "OPPOSITE", .glo "CityError", .exc "CityError", .glo "InvalidCity", .exc "InvalidCity", .glo "InvalidStreet", .exc "InvalidStreet", .glo "InvalidStreets", .exc "InvalidStreets"]
def lo0 : List PySem.Str := ["__name__", "CityError", "InvalidCity", "InvalidStreet", "InvalidStreets", "EAST", "WEST", "NORTH", "SOUTH", "ROW", "COLUMN", "OPPOSITE", "is_integer", "is_run", "are_runs", "is_city", "check_city", "count_streets", "flipped", "joined", "street_run", "is_street", "check_street", "grid_size", "direction_of", "street_direction", "turned_runs", "turned_city", "reversed_city", "_law_source"]
def lo1 : List PySem.Str := ["_law_draw", "_law_runs", "_law_town", "_law_streets", "_law_packed", "_law_city_of", "_law_turned", "_law_sign", "_law_some", "_law_right", "_law_small_right", "_law_large_right", "_law_many_right"]
def loose : List PySem.Str := lo0 ++ lo1
abbrev RR : PySem.W.OpenRow := PySem.W.OpenLaw.row PySem.Challenge.rw_cornercity_k04_reversed_streets
abbrev hk : PySem.W.Hook := hookC 4 fal fnl cns tbs
def ob (s : PySem.W.SharedT) : AlC := obsCG 4 fal fnl cns tbs (HandSHeadRun.getT s)
theorem ob_eq (s : PySem.W.SharedT) : ob s = hk.obs s.abs := obsCG_eq (HandSHeadRun.getT_eq s)
theorem run_f (w : World) : HandSHeadRun.RunEq RR (PySem.W.view RR.prog [45]) hk ob 20000 loose (w.withFollow "special-get-raises" false) := by
  intro os
  kernel_rfl
theorem run_t (w : World) : HandSHeadRun.RunEq RR (PySem.W.view RR.prog [45]) hk ob 20000 loose (w.withFollow "special-get-raises" true) := by
  intro os
  kernel_rfl
theorem run_top (w : World) : HandSHeadRun.RunEq RR (PySem.W.view RR.prog [45]) hk ob 20000 loose w :=
  PySem.W.byRow2 "special-get-raises" (P := fun w => HandSHeadRun.RunEq RR (PySem.W.view RR.prog [45]) hk ob 20000 loose w) run_f run_t w
open PySem PySem.W PySem.Calls PyProof.Rows in
theorem head_done (call : PySem.W.WalkO (PySem.W.view RR.prog [45]) loose (PySem.W.XL (PySem.W.view RR.prog [45]) []) hk.says RR.toRowW (HandSHeadRun.topDef RR.prog 45) [] fun f vs => PySem.call f vs) : PySem.Challenge.rw_cornercity_k04_reversed_streets.Holds := by
  w_on; o_law
  refine HandSHeadRun.head_any (r := OpenLaw.row PySem.Challenge.rw_cornercity_k04_reversed_streets) (q := view (OpenLaw.row PySem.Challenge.rw_cornercity_k04_reversed_streets).prog [45]) (H := CC.hk) (ob := CC.ob) (M := 20000) (loose := CC.loose) (d := HandSHeadRun.topDef (OpenLaw.row PySem.Challenge.rw_cornercity_k04_reversed_streets).prog 45) (kwd := []) CC.ob_eq
    (by kernel_rfl) (fun s => by kernel_rfl) CC.run_top (by kernel_rfl) (by kernel_rfl) (by kernel_rfl) (by rfl) (by first | assumption | decide +kernel) (by decide +kernel) ⟨rfl, rfl, rfl, rfl, rfl, by decide +kernel⟩ ?hw call
  case hw => w_witness2
theorem head_defs : (HandSHeadRun.topDef RR.prog 45).params.defaults = [] := by kernel_rfl
theorem head_name : (HandSHeadRun.topDef RR.prog 45).name = "law" := by kernel_rfl
end CC
namespace CC
open PySem PySem.Spec PyProof.Rows L2
section
variable {k : Nat} {v : D} {S : Sto} {Q : D → Sto → Prop} {E : Nat → List D → Sto → Prop}
@[simp ↓] theorem e_is_integer {low : Int} (hv : (tyOfD v S).isSome = true) : WR (CF (k + 1) f_is_integer [v, .int low] S) Q E = Q (.bl (isIntD v low)) S := by
  rw [cf_run (fd := fd_is_integer) rfl rfl]
  simp [fd_is_integer, bd_is_integer, startE, isi_int hv, isi_bool hv]
  cases v <;> simp [isIB, isBB, isIntD]
theorem e_is_run {a b : Str} (hv : Nice 2 v S) : WR (CF (k + 2) f_is_run [v, .tup [.str a, .str b]] S) Q E = Q (.bl (isRunD a b v)) S := by
  rw [cf_run (fd := fd_is_run) rfl rfl]
  simp [fd_is_run, bd_is_run, startE, isi_tuple hv.1]
  cases v with
  | tup ds =>
    have hn := (hv.2 ds rfl).2
    match ds, hn with
    | [], _ => simp [isTB, isRunD]
    | [x], _ => simp [isTB, isRunD_len]
    | _ :: _ :: _ :: r, _ =>
      rw [isRunD_len (by simp)]
      simp only [isTB, l_tup, optP_some, if_true, List.length_cons]
      rw [if_neg (by omega)]
    | [x, y], hn =>
      have hx := hn x (by simp)
      have hy := hn y (by simp)
      simp [isTB, isi_str hx.1]
      cases x with
      | str d =>
        simp [isSB, inSeq2, isRunD, hy.1]
        by_cases e : d = a ∨ d = b
        · have e' : (d == a || d == b) = true := by simpa using e
          simp only [e, if_true]
          rw [e']
          simp
        · have e' : (d == a || d == b) = false := by simpa using e
          simp only [e, if_false]
          rw [e']
          simp
      | _ => simp [isSB, isRunD]
  | _ => simp [isTB, isRunD]
theorem e_are_runs {a b : Str} (hv : Nice 3 v S) : WR (CF (k + 3) f_are_runs [v, .tup [.str a, .str b]] S) Q E = Q (.bl (areRunsD a b v)) S := by
  refine WR_eq fun {Q E} h => ?_
  rw [cf_run (fd := fd_are_runs) rfl rfl]
  simp [fd_are_runs, bd_are_runs, startE, isi_tuple hv.1]
  cases v with
  | tup ds =>
    obtain ⟨hl, hn⟩ := hv.2 ds rfl
    simp only [isTB, l_tup, optP_some, if_true]
    refine ite2 (fun e => ?_) (fun e => ?_)
    · have e' : ds = [] := List.length_eq_zero_iff.mp (by simpa using e)
      subst e'
      simpa [areRunsD] using h
    · refine lc_d (fun d => .bl (isRunD a b d)) hl (fun d hd => ?_) ?_
      · simp [e_is_run (hn d hd)]
      · have ne : ds.isEmpty = false := by cases ds <;> simp_all
        simp [blsOf_map]
        refine ite2 (fun e1 => ?_) (fun e1 => ?_)
        · have z : ds.all (isRunD a b) = false := by
            rw [Bool.eq_false_iff]
            intro z
            obtain ⟨d, hd, hf⟩ := e1
            rw [List.all_eq_true.mp z d hd] at hf
            cases hf
          simpa [areRunsD, ne, z] using h
        · have z : ds.all (isRunD a b) = true := by
            rw [List.all_eq_true]
            intro d hd
            cases hf : isRunD a b d with
            | true => rfl
            | false => exact absurd ⟨d, hd, hf⟩ e1
          rw [cut1]
          refine lc_m (m := ds.zip ds.tail) (enc := fun p => D.tup [p.1, p.2]) (fun p => .bl (fstS p.1 != fstS p.2)) (by simp only [List.length_zip, List.length_tail]; omega) (fun p hp => ?_) ?_
          · obtain ⟨r1, r2⟩ := zipRuns z hp
            obtain ⟨d1, c1, e1, g1⟩ := isRunD_str r1
            obtain ⟨d2, c2, e2, g2⟩ := isRunD_str r2
            simp [e1, e2, fstS, bne]
          · simp [blsOf_map]
            have ea : areRunsD a b (.tup ds) = ((ds.zip ds.tail).map fun p => fstS p.1 != fstS p.2).all id := by
              simp only [areRunsD, ne, z, List.all_map]
              rfl
            rw [ea] at h
            simpa using h
  | _ => simpa [isTB, areRunsD] using h
theorem e_is_city (hv : Nice 4 v S) : WR (CF (k + 4) f_is_city [v] S) Q E = Q (.bl (isCityD v)) S := by
  refine WR_eq fun {Q E} h => ?_
  rw [cf_run (fd := fd_is_city) rfl rfl]
  simp [fd_is_city, bd_is_city, startE, G, gvs, isi_tuple hv.1]
  cases v with
  | tup ds =>
    obtain ⟨hl, hn⟩ := hv.2 ds rfl
    simp only [isTB, l_tup, optP_some, if_true]
    refine ite2 (fun e => ?_) (fun e => ?_)
    · obtain ⟨x, y, rfl⟩ := two_of (by simpa using e)
      simp [e_are_runs (hn x (by simp)), e_are_runs (hn y (by simp))]
      refine ite2 (fun e1 => ?_) (fun e1 => ?_)
      · simpa [isCityD, e1] using h
      · have e1' : areRunsD "E" "W" x = false := by simpa using e1
        simpa [isCityD, e1'] using h
    · rw [isCityD_len (by omega)] at h
      simpa using h
  | _ => simpa [isTB, isCityD] using h
theorem e_check_city (hv : Nice 4 v S) : WR (CF (k + 5) f_check_city [v] S) Q E = if isCityD v = true then Q .non S else E 1 [] S := by
  rw [cf_run (fd := fd_check_city) rfl rfl]
  simp [fd_check_city, bd_check_city, startE, e_is_city hv]
@[simp ↓] theorem e_check_town {a b : Runs} (t : Town a b) : WR (CF (k + 5) f_check_city [encC a b] S) Q E = Q .non S := by
  rw [e_check_city t.nice, t.city]
  simp
@[simp ↓] theorem e_count_streets {l : Runs} (hl : l.length ≤ sizeLine) : WR (CF (k + 1) f_count_streets [encR l] S) Q E = Q (.int (total l)) S := by
  refine WR_eq fun {Q E} h => ?_
  rw [cf_run (fd := fd_count_streets) rfl rfl]
  simp [fd_count_streets, bd_count_streets, startE, encR]
  refine lc_m (fun p => .int p.2) hl (fun p hp => ?_) ?_
  · simp [encP]
  · simp [intsOf_map]
    exact h
theorem e_street_run {l : Runs} {n : Int} : WR (CF (k + 1) f_street_run [encR l, .int n] S) Q E = Q (encRun (runAt l n 0)) S := by
  refine WR_eq fun {Q E} h => ?_
  rw [cf_run (fd := fd_street_run) rfl rfl]
  simp [fd_street_run, bd_street_run, startE, encR]
  refine ws_for_map (m := l) (f := encP) (fun r ρ S1 => ∃ f a b, ρ = [some (.tup (l.map encP)), some (.int n), some (.int f), a, b] ∧ S1 = S ∧ runAt l n 0 = runAt r n f) ?_ ?_ ⟨0, none, none, rfl, rfl, rfl⟩
  · rintro ⟨d, c⟩ r ρ S1 ⟨f, a, b, rfl, rfl, e⟩
    simp [encP]
    rw [runAt] at e
    refine ite2 (fun z => ?_) (fun z => ?_)
    · rw [if_pos z] at e
      rw [e] at h
      simpa [encRun] using h
    · rw [if_neg (by omega)] at e
      exact e
  · rintro ρ S1 ⟨f, a, b, rfl, rfl, e⟩
    rw [e] at h
    simpa [runAt, encRun] using h
theorem e_dir_row {a b : Runs} {n : Int} (h0 : 0 ≤ n) (h1 : n < total a) : WR (CF (k + 2) f_direction_of [encC a b, .tup [.str "row", .int n]] S) Q E = Q (.str (signAt a n)) S := by
  obtain ⟨r, hr⟩ := runAt_some (l := a) (n := n) (f := 0) h0 (by omega)
  rw [cf_run (fd := fd_direction_of) rfl rfl]
  simp [fd_direction_of, bd_direction_of, startE, encC, G, gvs, e_street_run, hr, encRun, signAt]
theorem e_dir_col {a b : Runs} {n : Int} (h0 : 0 ≤ n) (h1 : n < total b) : WR (CF (k + 2) f_direction_of [encC a b, .tup [.str "column", .int n]] S) Q E = Q (.str (signAt b n)) S := by
  obtain ⟨r, hr⟩ := runAt_some (l := b) (n := n) (f := 0) h0 (by omega)
  rw [cf_run (fd := fd_direction_of) rfl rfl]
  simp [fd_direction_of, bd_direction_of, startE, encC, G, gvs, e_street_run, hr, encRun, signAt]
theorem e_grid_size {a b : Runs} (t : Town a b) : WR (CF (k + 6) f_grid_size [encC a b] S) Q E = Q (.tup [.int (total b), .int (total a)]) S := by
  rw [cf_run (fd := fd_grid_size) rfl rfl]
  simp [fd_grid_size, bd_grid_size, startE, t]
  simp [encC, t.la, t.lb]
theorem e_flipped {x : Str} (hx : letter x) : WR (CF (k + 1) f_flipped [.str x] S) Q E = Q (.str (opp x)) S := by
  rw [cf_run (fd := fd_flipped) rfl rfl]
  have e : List.lookup x tb_OPPOSITE = some (.str (opp x)) := by rcases hx with rfl | rfl | rfl | rfl <;> rfl
  simp [fd_flipped, bd_flipped, startE]
  rw [e]
theorem w_draw {n : Nat} {b : SO} {c j : Int} (h : S[n]? = some b) (hb : BagOk b c) (hc : c < 2 ^ 60) (j0 : 0 < j) (j1 : j < 2 ^ 200) (hQ : ∀ r b', 0 ≤ r → r < j → BagOk b' (c + 1) → Q (.int r) (S.set n b')) : WR (CF (k + 1) f__law_draw [.loc n, .int j] S) Q E := by
  obtain ⟨a, m, t, rfl, h2, h3, h4, h5, h6⟩ := hb
  rw [cf_run (fd := fd__law_draw) rfl rfl]
  simp [fd__law_draw, bd__law_draw, startE, lst_at h]
  refine ite2 (fun ea => ?_) (fun ea => ?_)
  · refine ⟨j0, divOk_of j0 j1 (by omega), ?_⟩
    rw [setIx_at h (j := 0) rfl]
    simp
    exact hQ _ _ (Int.emod_nonneg _ (by omega)) (Int.emod_lt_of_pos _ j0) ⟨_, m, t, rfl, Int.ediv_nonneg h2 (by omega), h3, h4, h5, by omega⟩
  · rw [setIx_at h (j := 2) rfl]
    simp [lst_at (set_get h)]
    have t1 : t + 1 < 2 ^ 61 := by omega
    have b1 : 0 ≤ m + 179424673 * (t + 1) := by omega
    have b2 : m + 179424673 * (t + 1) < 2 ^ 200 := by
      have : (179424673 * (t + 1) : Int) < 2 ^ 100 := by omega
      omega
    have c0 : 0 ≤ (m + 179424673 * (t + 1)) ^ 3 % 100000000000000000000000000000000000000037 := Int.emod_nonneg _ (by decide)
    have c1 : (m + 179424673 * (t + 1)) ^ 3 % 100000000000000000000000000000000000000037 < 100000000000000000000000000000000000000037 := Int.emod_lt_of_pos _ (by decide)
    refine ⟨mulOk_of (k := 40) (l := 61) (by decide) (by decide) (by decide) (by omega) t1 (by decide) (by decide), powOk_of (k := 200) b1 b2 (by decide) (by decide) (by decide) (by decide), by decide +kernel,
      mulOk_of (k := 40) (l := 61) (by decide) (by decide) (by decide) (by omega) t1 (by decide) (by decide), ?_⟩
    generalize (m + 179424673 * (t + 1)) ^ 3 % 100000000000000000000000000000000000000037 = z at c0 c1 ⊢
    refine ⟨powOk_of (k := 200) (by omega) ?_ (by decide) (by decide) (by decide) (by decide), by decide +kernel, divOk_of (k := 30) (by decide) (by decide) (by decide), j0, ?_⟩
    · have : (22801763489 * (t + 1) : Int) < 2 ^ 110 := by omega
      omega
    · exact hQ _ _ (Int.emod_nonneg _ (by omega)) (Int.emod_lt_of_pos _ j0) ⟨a, m, t + 1, rfl, h2, h3, h4, by omega, by omega⟩
def encSt (s : Bool × Int) : D := .tup [.str (if s.1 = true then "column" else "row"), .int s.2]
def stIn (a b : Runs) (s : Bool × Int) : Prop := 0 ≤ s.2 ∧ s.2 < total (if s.1 = true then b else a)
theorem joinR_snoc {l : Runs} {p : Str × Int} : joinR (l ++ [p]) = jstep (joinR l) p := by unfold joinR; rw [List.foldl_append]; rfl
theorem jstep_len {acc : Runs} {p : Str × Int} : (jstep acc p).length ≤ acc.length + 1 := by
  unfold jstep
  split
  · split
    · rw [List.length_append, List.length_dropLast, List.length_singleton]; omega
    · simp
  · simp
theorem joinR_len {l : Runs} : (joinR l).length ≤ l.length := by
  have key : ∀ (r acc : Runs), (r.foldl jstep acc).length ≤ acc.length + r.length := by
    intro r
    induction r with
    | nil => intro acc; simp
    | cons p r ih => intro acc; have := ih (jstep acc p); have := jstep_len (acc := acc) (p := p); simp only [List.foldl_cons, List.length_cons]; omega
  have := key l []
  simpa [joinR] using this
theorem e_joined {l : Runs} (hl : l.length ≤ 3000) : WR (CF (k + 1) f_joined [.fl (l.map encP)] S) Q E = Q (encR (joinR l)) S := by
  refine WR_eq fun {Q E} h => ?_
  rw [cf_run (fd := fd_joined) rfl rfl]
  simp [fd_joined, bd_joined, startE]
  obtain ⟨L, hL⟩ : ∃ L, L = S.length := ⟨_, rfl⟩
  rw [← hL]
  obtain ⟨J, hJ⟩ : ∃ J : Runs → Env → Sto → Prop, ∀ r ρ S1, J r ρ S1 ↔ ∃ (dn : Runs) (u v : Option D), dn ++ r = l ∧ ρ = [some (.fl (l.map encP)), some (.loc L), u, v] ∧ S1 = S ++ [SO.lst ((joinR dn).map encP)] := ⟨_, fun _ _ _ => Iff.rfl⟩
  have gL : ∀ y, (S ++ [y])[L]? = some y := fun y => by rw [hL]; simp
  refine ws_for_map (m := l) (f := encP) J ?_ ?_ ((hJ _ _ _).mpr ⟨[], _, _, rfl, rfl, rfl⟩)
  · rintro ⟨d, c⟩ r ρ S' hz
    obtain ⟨dn, u, v, he, rfl, rfl⟩ := (hJ _ _ _).mp hz
    have hdl : dn.length < 3000 := by have := congrArg List.length he; simp at this; omega
    have hjl := joinR_len (l := dn)
    have e0 : encP (d, c) = .tup [.str d, .int c] := rfl
    rw [e0]
    simp [ne_nil (x := .loc L) (lst_at (gL _)), lst_at (gL _)]
    have fin : ∀ u v, J r [some (.fl (l.map encP)), some (.loc L), u, v] (S ++ [SO.lst ((joinR (dn ++ [(d, c)])).map encP)]) := fun u v => (hJ _ _ _).mpr ⟨dn ++ [(d, c)], u, v, by simpa using he, rfl, rfl⟩
    rw [joinR_snoc] at fin
    unfold jstep at fin
    cases hg : (joinR dn).getLast? with
    | none =>
      have e1 : joinR dn = [] := List.getLast?_eq_none_iff.mp hg
      rw [hg] at fin
      rw [if_pos e1, if_pos e1]
      refine ⟨isLst_at (gL _), ?_⟩
      rw [mt_append (gL _)]
      rw [e1] at fin ⊢
      refine ⟨by simp [sizeLine], ?_⟩
      have := fin (some (.str d)) (some (.int c))
      rw [hL, List.set_append_right _ _ (Nat.le_refl _)]
      simpa [hL, encP] using this
    | some p =>
      have e1 : ¬ joinR dn = [] := fun e => by rw [e] at hg; cases hg
      rw [hg] at fin
      rw [if_neg e1]
      have hp : ((joinR dn).map encP).getLast? = some (encP p) := by rw [List.getLast?_map, hg]; rfl
      rw [atI_last hp]
      have i0 : ∀ S, ixD (encP p) (.int 0) S = some (.str p.1) := fun S => rfl
      have i1 : ∀ S, ixD (encP p) (.int 1) S = some (.int p.2) := fun S => rfl
      simp only [i0, i1, c_eqS]
      have hm := last_split hg
      generalize (joinR dn).dropLast = m at hm fin
      by_cases c1 : p.1 = d
      · simp [c1]
        rw [setIx_at (gL _) (j := m.length) (by rw [hm]; simp [ixN]; omega)]
        have := fin (some (.str d)) (some (.int c))
        simp only [c1, if_true] at this
        rw [hm]
        rw [hL, List.set_append_right _ _ (Nat.le_refl _)]
        simpa [hL, encP] using this
      · simp [c1, isLst_at (gL _), mt_append (gL _)]
        refine ⟨by unfold sizeLine; omega, ?_⟩
        have := fin (some (.str d)) (some (.int c))
        simp only [c1, if_false] at this
        rw [hL, List.set_append_right _ _ (Nat.le_refl _)]
        simpa [hL, encP] using this
  · intro ρ S' hz
    obtain ⟨dn, u, v, he, rfl, rfl⟩ := (hJ _ _ _).mp hz
    rw [List.append_nil] at he
    subst he
    show Ws (fzE 1 _ _ _) _
    rw [fz_old (m := L) rfl (gL _) (by simp)]
    simp
    have lt : (joinR dn).all ((fun d => D.lt L d) ∘ encP) = true := List.all_eq_true.mpr fun p _ => lt_encP
    rw [lt, hL, List.set_append_right _ _ (Nat.le_refl _)]
    simp
    exact h
theorem e_turned_runs {l : Runs} {ns : List Int} {A B : Str} (o : okR A B l = true) (lA : letter A) (lB : letter B) (ha : Asc ns) (hl : l.length ≤ 1000) (hn : ns.length ≤ 400) : WR (CF (k + 2) f_turned_runs [encR l, .fl (ns.map D.int)] S) Q E = Q (encR (turnR l ns)) S := by
  refine WR_eq fun {Q E} h => ?_
  have lt0 : ∀ q ∈ l, letter q.1 := fun q hq => by rcases (okR_mem o hq).1 with e | e <;> rw [e] <;> assumption
  have po := ok_pos o
  obtain ⟨i1, i2, i3, i4⟩ := cutA_ok (f := 0) (ns := ns) po ha
  have i5 := List.countP_le_length (p := fun n : Int => decide (0 ≤ n)) (l := ns)
  have hcl : (cutA l 0 ns).length ≤ 1800 := by omega
  rw [cf_run (fd := fd_turned_runs) rfl rfl]
  simp [fd_turned_runs, bd_turned_runs, startE, encR]
  obtain ⟨J, hJ⟩ : ∃ J : Runs → Env → Sto → Prop, ∀ r ρ S1, J r ρ S1 ↔ ∃ (pre : Runs) (f : Int) (n : Nat) (u4 u5 u6 u7 u8 : Option D), pre ++ cutA r f ns = cutA l 0 ns ∧ (∃ q, q ++ r = l) ∧ ρ = [some (.tup (l.map encP)), some (.fl (ns.map D.int)), some (.loc n), some (.int f), u4, u5, u6, u7, u8] ∧ (∃ J, S1 = S ++ J) ∧ S.length ≤ n ∧ S1[n]? = some (.lst (pre.map encP)) := ⟨_, fun _ _ _ => Iff.rfl⟩
  refine ws_for_map (m := l) (f := encP) J ?_ ?_ ((hJ _ _ _).mpr ⟨[], 0, S.length, _, _, _, _, _, rfl, ⟨[], rfl⟩, rfl, ⟨_, rfl⟩, Nat.le_refl _, by simp⟩)
  · rintro ⟨d, c⟩ r ρ S1 hz
    obtain ⟨pre, f, n, u4, u5, u6, u7, u8, e, ⟨q0, hq0⟩, rfl, ⟨G0, rfl⟩, hn0, hg⟩ := (hJ _ _ _).mp hz
    have e0 : encP (d, c) = .tup [.str d, .int c] := rfl
    have ld : letter d := lt0 (d, c) (by rw [← hq0]; simp)
    rw [e0]
    simp
    obtain ⟨I, hI⟩ : ∃ I : List Int → Env → Sto → Prop, ∀ rn ρ S1, I rn ρ S1 ↔ ∃ (pr : Runs) (here : Int) (n : Nat) (u7 : Option D), pr ++ (cutR d f c rn here ++ cutA r (f + c) ns) = cutA l 0 ns ∧ ρ = [some (.tup (l.map encP)), some (.fl (ns.map D.int)), some (.loc n), some (.int f), some (.str d), some (.int c), some (.int here), u7, u8] ∧ (∃ J, S1 = S ++ J) ∧ S.length ≤ n ∧ S1[n]? = some (.lst (pr.map encP)) := ⟨_, fun _ _ _ => Iff.rfl⟩
    refine ws_for_map (m := ns) (f := D.int) I ?_ ?_ ((hI _ _ _).mpr ⟨pre, f, n, _, by rw [← e]; rfl, rfl, ⟨_, rfl⟩, hn0, hg⟩)
    · intro x rn ρ S1 hz
      obtain ⟨pr, here, n, u7, e, rfl, ⟨G1, rfl⟩, hn1, hg⟩ := (hI _ _ _).mp hz
      have hpl : pr.length ≤ 1800 := by have := congrArg List.length e; rw [List.length_append] at this; omega
      simp
      by_cases k1 : f ≤ x
      · by_cases k2 : x < f + c
        · simp [k1, k2]
          rw [e_flipped ld]
          simp
          show catP (lstM (S ++ G1) (D.loc n)) _ _
          rw [lstM_at hg]
          refine ⟨by rw [List.length_map]; show pr.length + 2 ≤ _; unfold sizeLine; omega, ?_⟩
          rw [cutR, if_pos ⟨k1, k2⟩] at e
          refine (hI _ _ _).mpr ⟨pr ++ [(d, x - here), (opp d, 1)], x + 1, _, _, by rw [← e]; simp, rfl, ⟨_, rfl⟩, ?_, ?_⟩
          · simp
          · simp [encP]
        · simp [k1, k2]
          rw [cutR, if_neg (fun z => k2 z.2)] at e
          exact (hI _ _ _).mpr ⟨pr, here, n, _, e, rfl, ⟨_, rfl⟩, hn1, hg⟩
      · simp [k1]
        rw [cutR, if_neg (fun z => k1 z.1)] at e
        exact (hI _ _ _).mpr ⟨pr, here, n, _, e, rfl, ⟨_, rfl⟩, hn1, hg⟩
    · intro ρ S1 hz
      obtain ⟨pr, here, n, u7, e, rfl, ⟨G1, rfl⟩, hn1, hg⟩ := (hI _ _ _).mp hz
      have hpl : pr.length ≤ 1800 := by have := congrArg List.length e; rw [List.length_append] at this; omega
      simp [isLst_at hg, mt_append hg]
      refine ⟨by unfold sizeLine; omega, (hJ _ _ _).mpr ⟨pr ++ [(d, f + c - here)], f + c, n, _, _, _, _, _, by rw [← e]; simp [cutR], ⟨q0 ++ [(d, c)], by simpa using hq0⟩, rfl, ⟨G1.set (n - S.length) (.lst (pr.map encP ++ [.tup [.str d, .int (f + c - here)]])), ?_⟩, hn1, ?_⟩⟩
      · rw [List.set_append_right _ _ hn1]
      · rw [set_get hg]
        simp [encP]
  · intro ρ S1 hz
    obtain ⟨pre, f, n, u4, u5, u6, u7, u8, e, ⟨q0, hq0⟩, rfl, ⟨G0, rfl⟩, hn0, hg⟩ := (hJ _ _ _).mp hz
    have e' : pre = cutA l 0 ns := by rw [← e]; simp [cutA]
    subst e'
    show Ws (fzE 2 _ _ _) _
    refine fz_any (m := n) rfl hg hn0 fun G1 => ?_
    simp
    refine lc_fm (m := cutA l 0 ns) (enc := encP) (fun p => decide (0 < p.2)) encP (by unfold sizeLine; omega) (fun p hp => ?_) ?_
    · simp [encP]
    · have lt : ∀ j (m : Runs), ltL j (m.map encP) = true := fun j m => ltL_map' fun p => lt_encP
      rw [fr_new (lt _ _)]
      have hfl := List.length_filter_le (fun p : Str × Int => decide (0 < p.2)) (cutA l 0 ns)
      rw [e_joined (by omega)]
      simp
      exact h
theorem e_is_street_ok {a b : Runs} {s : Bool × Int} (la : a.length ≤ sizeLine) (lb : b.length ≤ sizeLine) (h : stIn a b s) : WR (CF (k + 2) f_is_street [encC a b, encSt s] S) Q E = Q (.bl true) S := by
  obtain ⟨f, n⟩ := s
  obtain ⟨h0, h1⟩ := h
  have ty : ∀ ds S, isinst (.tup ds) (.ty "tuple") S = some true := fun ds S => isi_tuple rfl
  have ts : ∀ x S, isinst (.str x) (.ty "str") S = some true := fun x S => isi_str rfl
  have ti : ∀ (i : Int) S, (tyOfD (.int i) S).isSome = true := fun _ _ => rfl
  have hI : isIntD (.int n) 0 = true := by simp [isIntD]; exact h0
  have i0 : ∀ S, ixD (encC a b) (.int 0) S = some (encR a) := fun _ => rfl
  have i1 : ∀ S, ixD (encC a b) (.int 1) S = some (encR b) := fun _ => rfl
  rw [cf_run (fd := fd_is_street) rfl rfl]
  cases f with
  | true =>
    have h1' : n < total b := h1
    simp [fd_is_street, bd_is_street, startE, encSt, G, gvs, ty, ts, ti, hI, inSeq2, i0, i1, la, lb, h1']
  | false =>
    have h1' : n < total a := h1
    simp [fd_is_street, bd_is_street, startE, encSt, G, gvs, ty, ts, ti, hI, inSeq2, i0, i1, la, lb, h1']
def numsOf (f : Bool) (l : List (Bool × Int)) : List Int := (l.filter fun s => s.1 == f).map (·.2)
theorem nums_nodup {f : Bool} {l : List (Bool × Int)} (h : l.Nodup) : (numsOf f l).Nodup := by
  unfold numsOf
  have h1 : (l.filter fun s => s.1 == f).Nodup := List.Nodup.sublist (List.filter_sublist) h
  refine List.Pairwise.map _ (fun x y hxy => ?_) (List.Pairwise.imp_of_mem (S := fun x y => x.1 = f ∧ y.1 = f ∧ x ≠ y) (fun {x y} hx hy hxy => ?_) h1)
  · intro e
    exact hxy.2.2 (Prod.ext (hxy.1.trans hxy.2.1.symm) e)
  · have kx := (List.mem_filter.mp hx).2
    have ky := (List.mem_filter.mp hy).2
    exact ⟨by simpa using kx, by simpa using ky, hxy⟩
theorem nums_mem {f : Bool} {l : List (Bool × Int)} {z : Int} : z ∈ numsOf f l ↔ (f, z) ∈ l := by
  unfold numsOf
  constructor
  · intro h
    obtain ⟨s, hs, rfl⟩ := List.mem_map.mp h
    obtain ⟨h1, h2⟩ := List.mem_filter.mp hs
    have : s.1 = f := by simpa using h2
    rw [← this]
    exact h1
  · intro h
    exact List.mem_map.mpr ⟨(f, z), List.mem_filter.mpr ⟨h, by simp⟩, rfl⟩
theorem nums_len {f : Bool} {l : List (Bool × Int)} : (numsOf f l).length ≤ l.length := by
  unfold numsOf
  rw [List.length_map]
  exact List.length_filter_le _ _
def rvA (l : List (Bool × Int)) (a : Runs) : Runs := turnR a (isort (numsOf false l))
def rvB (l : List (Bool × Int)) (b : Runs) : Runs := turnR b (isort (numsOf true l))
theorem e_turned_city {a b : Runs} {x : D} {l : List (Bool × Int)} (t : Big a b) (hx : lstD S x = some (l.map encSt)) (hn : l.Nodup) (hl : l.length ≤ 400) : WR (CF (k + 3) f_turned_city [encC a b, x] S) Q E = Q (encC (rvA l a) (rvB l b)) S := by
  refine WR_eq fun {Q E} h => ?_
  have i0 : ∀ S, ixD (encC a b) (.int 0) S = some (encR a) := fun _ => rfl
  have i1 : ∀ S, ixD (encC a b) (.int 1) S = some (encR b) := fun _ => rfl
  rw [cf_run (fd := fd_turned_city) rfl rfl]
  simp [fd_turned_city, bd_turned_city, startE, G, gvs]
  refine so_of hx fun src w => ?_
  refine lcS_fm (m := l) (enc := encSt) w (fun s => s.1 == false) (fun s => .int s.2) (by unfold sizeLine; omega) (fun s hs => ?_) ?_
  · obtain ⟨f, n⟩ := s
    cases f <;> simp [encSt, G, gvs]
  have e1 : (l.filter fun s => s.1 == false).map (fun s => D.int s.2) = (numsOf false l).map D.int := by unfold numsOf; rw [List.map_map]; rfl
  have e2 : (l.filter fun s => s.1 == true).map (fun s => D.int s.2) = (numsOf true l).map D.int := by unfold numsOf; rw [List.map_map]; rfl
  have lt : ∀ j (m : List Int), ltL j (m.map D.int) = true := fun j m => ltL_map' fun _ => by simp
  have io : ∀ m : List Int, intsOf (m.map D.int) = some m := fun m => by simpa using intsOf_map (f := id) m
  rw [e1]
  simp [lt, io]
  refine so_of hx fun src w => ?_
  refine lcS_fm (m := l) (enc := encSt) w (fun s => s.1 == true) (fun s => .int s.2) (by unfold sizeLine; omega) (fun s hs => ?_) ?_
  · obtain ⟨f, n⟩ := s
    cases f <;> simp [encSt, G, gvs]
  rw [e2]
  simp [lt, io, i0, i1]
  have la := t.la
  have lb := t.lb
  have n1 := nums_len (f := false) (l := l)
  have n2 := nums_len (f := true) (l := l)
  rw [e_turned_runs t.t.oa (by simp [letter]) (by simp [letter]) (isort_asc' (nums_nodup hn)) la (by rw [isort_len]; omega)]
  rw [e_turned_runs t.t.ob (by simp [letter]) (by simp [letter]) (isort_asc' (nums_nodup hn)) lb (by rw [isort_len]; omega)]
  simp
  exact h
theorem turned_big {a b : Runs} {l : List (Bool × Int)} (t : Big a b) (hn : l.Nodup) (la : a.length + 2 * l.length ≤ 1000) (lb : b.length + 2 * l.length ≤ 1000) : Big (rvA l a) (rvB l b) ∧ TOk "E" "W" a (isort (numsOf false l)) (rvA l a) ∧ TOk "N" "S" b (isort (numsOf true l)) (rvB l b) := by
  have ta := turn_ok t.t.oa (isort_asc' (nums_nodup (f := false) hn)) (by decide) (by decide)
  have tb := turn_ok t.t.ob (isort_asc' (nums_nodup (f := true) hn)) (by decide) (by decide)
  have h1 := ta.len
  have h2 := tb.len
  rw [isort_len] at h1 h2
  have n1 := nums_len (f := false) (l := l)
  have n2 := nums_len (f := true) (l := l)
  have l1 : (rvA l a).length ≤ 1000 := by unfold rvA; omega
  have l2 : (rvB l b).length ≤ 1000 := by unfold rvB; omega
  refine ⟨⟨⟨ta.ok, tb.ok, by unfold sizeLine; omega, by unfold sizeLine; omega⟩, l1, l2, ?_, ?_⟩, ta, tb⟩
  · show total (turnR a _) < _
    rw [ta.tot]; exact t.ta
  · show total (turnR b _) < _
    rw [tb.tot]; exact t.tb
def kSt (s : Bool × Int) : NestedKey := .tup [.text (if s.1 = true then "column" else "row"), .num s.2]
theorem kT_st {s : Bool × Int} : kT (encSt s) = some (kSt s) := rfl
theorem kSt_inj {s t : Bool × Int} (h : kSt s = kSt t) : s = t := by
  obtain ⟨f, n⟩ := s
  obtain ⟨g, m⟩ := t
  unfold kSt at h
  injection h with h
  injection h with h1 h2
  injection h1 with h1
  injection h2 with h2 _
  injection h2 with h2
  simp only at h1 h2
  have : f = g := by
    cases f <;> cases g <;> first | rfl | (exfalso; simp at h1)
  rw [this, h2]
theorem kTs_st : ∀ l : List (Bool × Int), kTs (l.map encSt) = some (l.map kSt)
  | [] => rfl
  | s :: l => by
    show ((kT (encSt s)).bind fun k => (kTs (l.map encSt)).map (k :: ·)) = _
    rw [kT_st, kTs_st l]
    rfl
theorem lset_st {l : List (Bool × Int)} (hn : l.Nodup) (hl : l.length < 300) : lsetL (l.map encSt) = some l.length := by
  unfold lsetL
  rw [kTs_st]
  show (if _ then some (uds (l.map kSt)).length else none) = _
  have h1 : (l.map kSt).Nodup := List.Pairwise.map _ (fun x y hxy e => hxy (kSt_inj e)) hn
  have h2 : (l.map kSt).all flatB = true := List.all_eq_true.mpr fun x hx => by
    obtain ⟨s, _, rfl⟩ := List.mem_map.mp hx
    rfl
  rw [uds_of h1, h2, decide_eq_true (by rw [List.length_map]; exact hl), List.length_map]
  rfl
theorem e_reversed_okG {a b : Runs} {l : List (Bool × Int)} (t : Big a b) (hn : l.Nodup) (hl : l.length < 300) (hi : ∀ s ∈ l, stIn a b s) : WR (CF (k + 6) f_reversed_city [encC a b, .fl (l.map encSt)] S) Q E = Q (encC (rvA l a) (rvB l b)) S := by
  refine WR_eq fun {Q E} h => ?_
  have tl : ∀ ds S, isinst (.fl ds) (.ty "list") S = some true := fun ds S => isi_list rfl
  rw [cf_run (fd := fd_reversed_city) rfl rfl]
  simp [fd_reversed_city, bd_reversed_city, startE, ↓e_check_town t.t, tl]
  refine lc_m (m := l) (enc := encSt) (fun s => .bl true) (by unfold sizeLine; omega) (fun s hs => ?_) ?_
  · simp [e_is_street_ok t.t.la t.t.lb (hi s hs)]
  have hb : blsOf (l.map fun _ => D.bl true) = some (l.map fun _ => true) := blsOf_map (f := fun _ => true) l
  have ha : (l.map fun _ => true).all id = true := List.all_eq_true.mpr fun x hx => by
    obtain ⟨_, _, rfl⟩ := List.mem_map.mp hx
    rfl
  have lt : ∀ j, ltL j (l.map fun _ => D.bl true) = true := fun j => ltL_map' fun _ => by simp
  have hs := lset_st hn hl
  have he : ∀ {S Q E}, WR (CF (k + 5) f_turned_city [encC a b, .fl (l.map encSt)] S) Q E = Q (encC (rvA l a) (rvB l b)) S := fun {S Q E} => e_turned_city (k := k + 2) t rfl hn (by omega)
  rw [fr_new (lt _)]
  simp [hb, hs, ↓he]
  exact h
end
end CC
namespace CC
open PySem PySem.Spec PyProof.Rows L2
theorem runs_nx {d : Str} {c : Int} {l : Runs} (h1 : ∀ p ∈ l, 1 ≤ p.2) (h2 : ascR ((d, c) :: l) = true) (h3 : 0 < total l) : signL l 0 ≠ d := by
  cases l with
  | nil => exact absurd h3 (by decide)
  | cons q l =>
    obtain ⟨q1, q2⟩ := q
    have := h1 (q1, q2) List.mem_cons_self
    have q0 : (1 : Int) ≤ q2 := this
    rw [ascR_cons] at h2
    simp only [Bool.and_eq_true, bne_iff_ne, ne_eq] at h2
    have h4 : d ≠ q1 := h2.1
    rw [sg_cons, if_pos (by omega)]
    exact fun e => h4 e.symm
theorem runs_eq : ∀ {l m : Runs}, (∀ p ∈ l, 1 ≤ p.2) → (∀ p ∈ m, 1 ≤ p.2) → ascR l = true → ascR m = true → total l = total m → (∀ z, 0 ≤ z → z < total l → signL l z = signL m z) → l = m
  | [], [], _, _, _, _, _, _ => rfl
  | [], p :: m, _, hm, _, _, ht, _ => by
    have := tot0 (l := m) fun q hq => by have := hm q (List.mem_cons_of_mem _ hq); omega
    have := hm p List.mem_cons_self
    rw [total_cons] at ht
    have : total [] = 0 := rfl
    omega
  | p :: l, [], hl, _, _, _, ht, _ => by
    have := tot0 (l := l) fun q hq => by have := hl q (List.mem_cons_of_mem _ hq); omega
    have := hl p List.mem_cons_self
    rw [total_cons] at ht
    have : total [] = 0 := rfl
    omega
  | (d, c) :: l, (e, f) :: m, hl, hm, al, am, ht, hs => by
    have c1 : 1 ≤ c := hl (d, c) List.mem_cons_self
    have f1 : 1 ≤ f := hm (e, f) List.mem_cons_self
    have hl' : ∀ p ∈ l, 1 ≤ p.2 := fun p hp => hl p (List.mem_cons_of_mem _ hp)
    have hm' : ∀ p ∈ m, 1 ≤ p.2 := fun p hp => hm p (List.mem_cons_of_mem _ hp)
    have tl := tot0 (l := l) fun q hq => by have := hl' q hq; omega
    have tm := tot0 (l := m) fun q hq => by have := hm' q hq; omega
    have ht' : c + total l = f + total m := by simpa only [total_cons] using ht
    have t1 : total ((d, c) :: l) = c + total l := total_cons
    have de : d = e := by
      have := hs 0 (Int.le_refl _) (by rw [t1]; omega)
      rwa [sg_cons, sg_cons, if_pos (by omega), if_pos (by omega)] at this
    subst de
    have cf : c = f := by
      rcases Int.lt_trichotomy c f with h | h | h
      · have := hs c (by omega) (by rw [t1]; omega)
        rw [sg_cons, sg_cons, if_neg (by omega), if_pos h, Int.sub_self] at this
        exact absurd this (runs_nx hl' al (by omega))
      · exact h
      · have := hs f (by omega) (by rw [t1]; omega)
        rw [sg_cons, sg_cons, if_neg (Int.lt_irrefl f), if_pos h, Int.sub_self] at this
        exact absurd this.symm (runs_nx hm' am (by omega))
    subst cf
    have at' : ∀ {l : Runs}, ascR ((d, c) :: l) = true → ascR l = true := fun {l} h => by
      cases l with
      | nil => rfl
      | cons q l => rw [ascR_cons] at h; exact (Bool.and_eq_true _ _ ▸ h).2
    have := runs_eq (l := l) (m := m) hl' hm' (at' al) (at' am) (by omega) fun z z0 z1 => by
      have := hs (c + z) (by omega) (by rw [t1]; omega)
      rwa [sg_cons, sg_cons, if_neg (by omega), if_neg (by omega), show c + z - c = z by omega] at this
    rw [this]
theorem ok_asc {A B : Str} {l : Runs} (o : okR A B l = true) : ascR l = true := by
  unfold okR at o
  exact (Bool.and_eq_true _ _ ▸ o).2
def cutsL : Runs → Int → List Int → List Int
  | [], _, _ => []
  | p :: l, s, ns => (s :: ns.filter fun n => decide (s ≤ n) && decide (n < s + p.2)) ++ ((ns.filter fun n => decide (s ≤ n) && decide (n < s + p.2)).map (· + 1)) ++ cutsL l (s + p.2) ns
theorem cuts_rng : ∀ {l : Runs} {s : Int} {ns : List Int}, (∀ p ∈ l, 1 ≤ p.2) → ∀ x ∈ cutsL l s ns, s ≤ x ∧ x ≤ s + total l
  | [], _, _, _, _, h => nomatch h
  | p :: l, s, ns, hp, x, h => by
    have h1 := hp p List.mem_cons_self
    have hl : ∀ p ∈ l, 1 ≤ p.2 := fun q hq => hp q (List.mem_cons_of_mem _ hq)
    have t0 := tot0 (l := l) fun q hq => by have := hl q hq; omega
    rw [total_cons]
    unfold cutsL at h
    rcases List.mem_append.mp h with h | h
    · rcases List.mem_append.mp h with h | h
      · rcases List.mem_cons.mp h with e | h
        · omega
        · have := (List.mem_filter.mp h).2
          simp only [Bool.and_eq_true, decide_eq_true_eq] at this
          omega
      · obtain ⟨n, hn, e⟩ := List.mem_map.mp h
        have := (List.mem_filter.mp hn).2
        simp only [Bool.and_eq_true, decide_eq_true_eq] at this
        omega
    · have := cuts_rng hl x h
      omega
theorem cuts_num : ∀ {l : Runs} {s : Int} {ns : List Int}, (∀ p ∈ l, 1 ≤ p.2) → ∀ n ∈ ns, s ≤ n → n < s + total l → n ∈ cutsL l s ns ∧ n + 1 ∈ cutsL l s ns
  | [], s, ns, _, n, _, h1, h2 => by
    have : total [] = 0 := rfl
    omega
  | p :: l, s, ns, hp, n, hn, h1, h2 => by
    have hl : ∀ p ∈ l, 1 ≤ p.2 := fun q hq => hp q (List.mem_cons_of_mem _ hq)
    rw [total_cons] at h2
    unfold cutsL
    by_cases c : n < s + p.2
    · have hf : n ∈ ns.filter fun n => decide (s ≤ n) && decide (n < s + p.2) := List.mem_filter.mpr ⟨hn, by simp [h1, c]⟩
      exact ⟨List.mem_append_left _ (List.mem_append_left _ (List.mem_cons_of_mem _ hf)), List.mem_append_left _ (List.mem_append_right _ (List.mem_map.mpr ⟨n, hf, rfl⟩))⟩
    · obtain ⟨a, b⟩ := cuts_num (s := s + p.2) hl n hn (by omega) (by omega)
      exact ⟨List.mem_append_right _ a, List.mem_append_right _ b⟩
theorem sign_stay : ∀ {l : Runs} {s y z : Int} {ns : List Int}, (∀ p ∈ l, 1 ≤ p.2) → 0 ≤ y → y ≤ z → z < total l → (∀ x ∈ cutsL l s ns, x ≤ s + y ∨ s + z < x) → signL l y = signL l z
  | [], s, y, z, ns, _, h0, h1, h2, _ => by
    have : total [] = 0 := rfl
    omega
  | (d, c) :: l, s, y, z, ns, hp, h0, h1, h2, h3 => by
    have hl : ∀ p ∈ l, 1 ≤ p.2 := fun q hq => hp q (List.mem_cons_of_mem _ hq)
    have tc : total ((d, c) :: l) = c + total l := total_cons
    rw [sg_cons, sg_cons]
    have up : ∀ x ∈ cutsL l (s + c) ns, x ∈ cutsL ((d, c) :: l) s ns := fun x hx => List.mem_append_right _ hx
    by_cases a : y < c
    · by_cases b : z < c
      · rw [if_pos a, if_pos b]
      · exfalso
        cases l with
        | nil =>
          have : total ([] : Runs) = 0 := rfl
          omega
        | cons q l =>
          have := h3 (s + c) (up _ (List.mem_append_left _ (List.mem_append_left _ List.mem_cons_self)))
          omega
    · rw [if_neg a, if_neg (by omega)]
      refine sign_stay (s := s + c) (ns := ns) hl (by omega) (by omega) (by omega) fun x hx => ?_
      have := h3 x (up x hx)
      omega
def pcsL (g : Int → Str) (es : List Int) : Runs := (es.zip es.tail).map fun p => (g p.1, p.2 - p.1)
theorem pcs_cons {g : Int → Str} {e f : Int} {r : List Int} : pcsL g (e :: f :: r) = (g e, f - e) :: pcsL g (f :: r) := rfl
theorem pcs_pos {g : Int → Str} : ∀ {es : List Int}, Asc es → ∀ p ∈ pcsL g es, 1 ≤ p.2
  | [], _, _, h => nomatch h
  | [_], _, _, h => nomatch h
  | e :: f :: r, a, p, h => by
    have a1 := List.pairwise_cons.mp a
    rw [pcs_cons] at h
    rcases List.mem_cons.mp h with rfl | h
    · have := a1.1 f List.mem_cons_self
      show 1 ≤ f - e
      omega
    · exact pcs_pos a1.2 p h
theorem pcs_ok {g : Int → Str} : ∀ {es : List Int} {e m : Int}, Asc (e :: es) → (e :: es).getLast? = some m → total (pcsL g (e :: es)) = m - e ∧ ∀ z, e ≤ z → z < m → ∃ lo hi, lo ∈ e :: es ∧ hi ∈ e :: es ∧ lo ≤ z ∧ z < hi ∧ (∀ x ∈ e :: es, x ≤ lo ∨ hi ≤ x) ∧ signL (pcsL g (e :: es)) (z - e) = g lo
  | [], e, m, _, h => by
    have h : e = m := Option.some.inj h
    subst h
    exact ⟨by show (0 : Int) = _; omega, fun z z0 z1 => by omega⟩
  | f :: r, e, m, a, h => by
    have a1 := List.pairwise_cons.mp a
    have ef := a1.1 f List.mem_cons_self
    have h' : (f :: r).getLast? = some m := by rwa [List.getLast?_cons_cons] at h
    obtain ⟨i1, i2⟩ := pcs_ok (g := g) a1.2 h'
    rw [pcs_cons]
    refine ⟨by rw [total_cons, i1]; show f - e + (m - f) = _; omega, fun z z0 z1 => ?_⟩
    by_cases c : z < f
    · refine ⟨e, f, by simp, by simp, z0, c, fun x hx => ?_, by rw [sg_cons, if_pos (by omega)]⟩
      rcases List.mem_cons.mp hx with rfl | hx
      · exact .inl (Int.le_refl _)
      · rcases List.mem_cons.mp hx with rfl | hx
        · exact .inr (Int.le_refl _)
        · have := (List.pairwise_cons.mp a1.2).1 x hx
          exact .inr (by omega)
    · obtain ⟨lo, hi, b1, b2, b3, b4, b5, b6⟩ := i2 z (by omega) z1
      refine ⟨lo, hi, List.mem_cons_of_mem _ b1, List.mem_cons_of_mem _ b2, b3, b4, fun x hx => ?_, ?_⟩
      · rcases List.mem_cons.mp hx with rfl | hx
        · left
          rcases List.mem_cons.mp b1 with rfl | b1
          · omega
          · have := a1.1 lo (List.mem_cons_of_mem _ b1)
            omega
        · exact b5 x hx
      · rw [sg_cons, if_neg (by omega), show z - e - (f - e) = z - f by omega]
        exact b6
theorem asc_last {es : List Int} (a : Asc es) {m : Int} (hm : m ∈ es) (hx : ∀ x ∈ es, x ≤ m) : es.getLast? = some m := by
  have ne : es ≠ [] := List.ne_nil_of_mem hm
  rw [List.getLast?_eq_some_getLast ne]
  have h1 := hx _ (List.getLast_mem ne)
  have h2 : m ≤ es.getLast ne := by
    obtain ⟨i, hi, e⟩ := List.getElem_of_mem hm
    rw [List.getLast_eq_getElem]
    rcases Nat.lt_or_ge i (es.length - 1) with c | c
    · have := List.pairwise_iff_getElem.mp a i (es.length - 1) hi (by omega) c
      omega
    · have e2 : i = es.length - 1 := by omega
      subst e2
      omega
  congr 1
  omega
theorem asc_head {es : List Int} (a : Asc es) {m : Int} (hm : m ∈ es) (hx : ∀ x ∈ es, m ≤ x) : ∃ r, es = m :: r := by
  cases es with
  | nil => cases hm
  | cons e r =>
    have h1 := hx e List.mem_cons_self
    rcases List.mem_cons.mp hm with rfl | h
    · exact ⟨r, rfl⟩
    · have := (List.pairwise_cons.mp a).1 m h
      omega
theorem cut_turn {A B : Str} {l : Runs} {ns ms : List Int} (o : okR A B l = true) (hA : opp A = B) (hB : opp B = A) (hn : ∀ n ∈ ns, 0 ≤ n ∧ n < total l) (am : Asc ms) (hm : ∀ n, n ∈ ms ↔ n ∈ ns) :
    joinR (pcsL (flipAt l ns) (usort (cutsL l 0 ns ++ [total l]))) = turnR l ms := by
  have t := turn_ok o am hA hB
  have lp := ok_pos o
  obtain ⟨es, hes⟩ : ∃ es, es = usort (cutsL l 0 ns ++ [total l]) := ⟨_, rfl⟩
  rw [← hes]
  have asc : Asc es := by rw [hes]; exact usort_Asc
  have mem : ∀ x, x ∈ es ↔ x ∈ cutsL l 0 ns ∨ x = total l := fun x => by
    rw [hes, usort_mem, List.mem_append, List.mem_singleton]
  have rng : ∀ x ∈ es, 0 ≤ x ∧ x ≤ total l := fun x hx => by
    have t1 := total_pos o
    rcases (mem x).mp hx with h | rfl
    · have := cuts_rng lp x h
      omega
    · omega
  have z0 : (0 : Int) ∈ es := by
    refine (mem 0).mpr (.inl ?_)
    cases l with
    | nil => cases o
    | cons p l => exact List.mem_append_left _ (List.mem_append_left _ List.mem_cons_self)
  obtain ⟨r, er⟩ := asc_head asc z0 fun x hx => (rng x hx).1
  have la := asc_last asc ((mem _).mpr (.inr rfl)) fun x hx => (rng x hx).2
  rw [er] at asc la
  obtain ⟨p1, p2⟩ := pcs_ok (g := flipAt l ns) asc la
  have j := join_ok (pcs_pos (g := flipAt l ns) asc)
  rw [er]
  refine runs_eq j.pos (ok_pos t.ok) (dif_ascR j.dif) (ok_asc t.ok) (by rw [j.tot, p1, t.tot]; omega) fun z y0 y1 => ?_
  rw [j.tot, p1, Int.sub_zero] at y1
  obtain ⟨lo, hi, b1, b2, b3, b4, b5, b6⟩ := p2 z y0 y1
  rw [Int.sub_zero] at b6
  rw [← er] at b1 b2 b5
  rw [j.sgn z y0, b6, t.sgn z y0 y1]
  have lo0 := (rng lo b1).1
  have hl : ∀ x ∈ cutsL l 0 ns, x ≤ 0 + lo ∨ 0 + z < x := fun x hx => by
    have := b5 x ((mem x).mpr (.inl hx))
    omega
  have e1 : signL l lo = signL l z := sign_stay lp lo0 b3 y1 hl
  have e2 : lo ∈ ns ↔ z ∈ ms := by
    rw [hm]
    constructor
    · intro h
      obtain ⟨_, c2⟩ := cuts_num (s := 0) lp lo h lo0 (by have := (hn lo h).2; omega)
      have := hl _ c2
      have e : lo = z := by omega
      rwa [← e]
    · intro h
      obtain ⟨c1, _⟩ := cuts_num (s := 0) lp z h y0 (by omega)
      have := hl _ c1
      have e : lo = z := by omega
      rwa [e]
  unfold flipAt
  rw [e1]
  by_cases c : lo ∈ ns
  · rw [if_pos c, if_pos (e2.mp c)]
  · rw [if_neg c, if_neg fun h => c (e2.mpr h)]
end CC
namespace CC
open PySem PySem.Spec PyProof.Rows L2
theorem cuts_snoc : ∀ {l : Runs} {p : Str × Int} {s : Int} {ns : List Int}, cutsL (l ++ [p]) s ns = cutsL l s ns ++ cutsL [p] (s + total l) ns
  | [], p, s, ns => by
    have : total [] = 0 := rfl
    rw [this, Int.add_zero]
    rfl
  | q :: l, p, s, ns => by
    show _ ++ cutsL (l ++ [p]) (s + q.2) ns = (_ ++ cutsL l (s + q.2) ns) ++ _
    rw [cuts_snoc, total_cons, Int.add_assoc]
    simp only [List.append_assoc]
theorem cuts_len : ∀ {l : Runs} {s : Int} {ns : List Int}, (∀ p ∈ l, 1 ≤ p.2) → (cutsL l s ns).length ≤ l.length + 2 * (ns.filter fun n => decide (s ≤ n)).length
  | [], s, ns, _ => Nat.zero_le _
  | p :: l, s, ns, hp => by
    have h1 := hp p List.mem_cons_self
    have ih := cuts_len (l := l) (s := s + p.2) (ns := ns) fun q hq => hp q (List.mem_cons_of_mem _ hq)
    have h2 : (ns.filter fun n => decide (s ≤ n) && decide (n < s + p.2)).length + (ns.filter fun n => decide (s + p.2 ≤ n)).length ≤ (ns.filter fun n => decide (s ≤ n)).length := by
      clear ih
      induction ns with
      | nil => simp
      | cons n ns ih =>
        by_cases c1 : s ≤ n
        · by_cases c2 : n < s + p.2
          · simp [List.filter_cons, c1, c2, show ¬ (s + p.2 ≤ n) by omega]
            omega
          · simp [List.filter_cons, c1, c2, show s + p.2 ≤ n by omega]
            omega
        · simp [List.filter_cons, c1, show ¬ (s + p.2 ≤ n) by omega]
          omega
    unfold cutsL
    rw [List.length_append, List.length_append, List.length_cons, List.length_map, List.length_cons]
    omega
theorem sign_in : ∀ {l : Runs} {z : Int}, 0 ≤ z → z < total l → ∃ p, p ∈ l ∧ p.1 = signL l z
  | [], z, h0, h1 => by
    have : total [] = 0 := rfl
    omega
  | (d, c) :: l, z, h0, h1 => by
    have tc : total ((d, c) :: l) = c + total l := total_cons
    rw [sg_cons]
    by_cases h : z < c
    · exact ⟨(d, c), List.mem_cons_self, by rw [if_pos h]⟩
    · obtain ⟨p, hp, e⟩ := sign_in (l := l) (z := z - c) (by omega) (by omega)
      exact ⟨p, List.mem_cons_of_mem _ hp, by rw [if_neg h, e]⟩
theorem dd8 : ddL [.str "E", .str "W", .str "W", .str "E", .str "N", .str "S", .str "S", .str "N"] [] = some [((.inr "E" : Key), D.str "W"), (.inr "W", .str "E"), (.inr "N", .str "S"), (.inr "S", .str "N")] := rfl
theorem dd_opp {d : Str} (hd : letter d) : ((kD (.str d)).bind fun k => valA [((.inr "E" : Key), D.str "W"), (.inr "W", .str "E"), (.inr "N", .str "S"), (.inr "S", .str "N")] k) = some (.str (opp d)) := by
  rcases hd with rfl | rfl | rfl | rfl <;> rfl
section
variable {k : Nat} {v : D} {S : Sto} {Q : D → Sto → Prop} {E : Nat → List D → Sto → Prop}
theorem e_sign {l : Runs} {z : Int} : WR (CF (k + 1) f__law_sign [encR l, .int z] S) Q E = Q (.str (signL l z)) S := by
  refine WR_eq fun {Q E} h => ?_
  rw [cf_run (fd := fd__law_sign) rfl rfl]
  simp -implicitDefEqProofs [fd__law_sign, bd__law_sign, startE, encR]
  obtain ⟨J, hJ⟩ : ∃ J : Runs → Env → Sto → Prop, ∀ r ρ S1, J r ρ S1 ↔ S1 = S ∧ ∃ (y : Int) (u v : Option D), signL r y = signL l z ∧ ρ = [some (.tup (l.map encP)), some (.int z), some (.int y), u, v] := ⟨_, fun _ _ _ => Iff.rfl⟩
  refine ws_for_map (m := l) (f := encP) J ?_ ?_ ((hJ _ _ _).mpr ⟨rfl, z, _, _, rfl, rfl⟩)
  · rintro ⟨d, c⟩ r ρ S' hz
    obtain ⟨rfl, y, u, v, he, rfl⟩ := (hJ _ _ _).mp hz
    have e0 : encP (d, c) = .tup [.str d, .int c] := rfl
    rw [e0]
    rw [sg_cons] at he
    simp -implicitDefEqProofs
    by_cases hy : y < c
    · rw [if_pos hy] at he ⊢
      rw [he]
      exact h
    · rw [if_neg hy] at he ⊢
      exact (hJ _ _ _).mpr ⟨rfl, _, _, _, he, rfl⟩
  · intro ρ S' hz
    obtain ⟨rfl, y, u, v, he, rfl⟩ := (hJ _ _ _).mp hz
    simp -implicitDefEqProofs
    rw [← he] at h
    exact h
theorem w_turned {l : Runs} {ns : List Int} (lp : ∀ p ∈ l, 1 ≤ p.2) (lt : ∀ p ∈ l, letter p.1) (ll : l.length ≤ 500) (ln : ns.length ≤ 300) (hn : ∀ n ∈ ns, 0 ≤ n ∧ n < total l) (hQ : Q (encR (joinR (pcsL (flipAt l ns) (usort (cutsL l 0 ns ++ [total l]))))) S) :
    WR (CF (k + 2) f__law_turned [encR l, .fl (ns.map D.int)] S) Q E := by
  have sg : ∀ {z : Int} {S : Sto} {Q E}, WR (CF (k + 1) f__law_sign [encR l, .int z] S) Q E = Q (.str (signL l z)) S := fun {z S Q E} => e_sign
  rw [cf_run (fd := fd__law_turned) rfl rfl]
  show Ws (run W (CF (k + 1)) G bd__law_turned [some (encR l), some (.fl (ns.map D.int)), none, none, none, none, none, none, none, none, none] S) _
  unfold bd__law_turned
  generalize CF (k + 1) = C at *
  have iL : ∀ (m : List Int) j, ltL j (m.map D.int) = true := fun m j => ltL_map' fun _ => by simp
  refine s_seq (fun ρ S1 => S1 = S ∧ ρ = [some (encR l), some (.fl (ns.map D.int)), some (.fl []), some (.int 0), none, none, none, none, none, none, none]) ?_ ?_
  · simp -implicitDefEqProofs
  rintro ρ S1 ⟨rfl, rfl⟩
  obtain ⟨J, hJ⟩ : ∃ J : Runs → Env → Sto → Prop, ∀ r ρ S', J r ρ S' ↔ S' = S1 ∧ ∃ (dn : Runs) (u4 u5 : Option D), dn ++ r = l ∧ ρ = [some (encR l), some (.fl (ns.map D.int)), some (.fl ((cutsL dn 0 ns).map D.int)), some (.int (total dn)), u4, u5, none, none, none, none, none] := ⟨_, fun _ _ _ => Iff.rfl⟩
  refine s_seq (J []) ?_ ?_
  · simp -implicitDefEqProofs [encR]
    refine ws_for_map (m := l) (f := encP) J ?_ (fun _ _ h => h) ((hJ _ _ _).mpr ⟨rfl, [], _, _, rfl, rfl⟩)
    rintro ⟨d, c⟩ r ρ S' hz
    obtain ⟨rfl, dn, u4, u5, he, rfl⟩ := (hJ _ _ _).mp hz
    have e0 : encP (d, c) = .tup [.str d, .int c] := rfl
    rw [e0]
    have cl : (cutsL dn 0 ns).length ≤ 1100 := by
      have h1 := cuts_len (l := dn) (s := 0) (ns := ns) fun p hp => lp p (by rw [← he]; exact List.mem_append_left _ hp)
      have h2 := List.length_filter_le (fun n : Int => decide ((0 : Int) ≤ n)) ns
      have h3 : l.length = dn.length + (r.length + 1) := by rw [← he]; simp
      omega
    obtain ⟨fl, hfl⟩ : ∃ f, f = ns.filter fun n => decide (total dn ≤ n) && decide (n < total dn + c) := ⟨_, rfl⟩
    have fn : fl.length ≤ 300 := by
      have := List.length_filter_le (fun n => decide (total dn ≤ n) && decide (n < total dn + c)) ns
      rw [hfl]
      omega
    simp -implicitDefEqProofs
    refine ⟨by unfold sizeLine; omega, ?_⟩
    refine lc_fm (m := ns) (enc := D.int) (fun n => decide (total dn ≤ n) && decide (n < total dn + c)) D.int (by unfold sizeLine; omega) (fun n hn' => ?_) ?_
    · simp -implicitDefEqProofs
      split <;> intros <;> omega
    rw [← hfl, fr_new (iL _ _)]
    simp -implicitDefEqProofs
    refine ⟨by unfold sizeLine; omega, ?_⟩
    refine lc_fm (m := ns) (enc := D.int) (fun n => decide (total dn ≤ n) && decide (n < total dn + c)) (fun n => D.int (n + 1)) (by unfold sizeLine; omega) (fun n hn' => ?_) ?_
    · simp -implicitDefEqProofs
      split <;> intros <;> omega
    have ee : (cutsL (dn ++ [(d, c)]) 0 ns).map D.int = (cutsL dn 0 ns).map D.int ++ D.int (total dn) :: (fl.map D.int ++ fl.map (fun n => D.int (n + 1))) := by
      rw [cuts_snoc, Int.zero_add, List.map_append]
      simp [cutsL, ← hfl]
    have te : total (dn ++ [(d, c)]) = total dn + c := by
      rw [total_append]
      show total dn + (c + 0) = _
      omega
    have lt2 : ∀ j, ltL j (fl.map fun n => D.int (n + 1)) = true := fun j => ltL_map' fun _ => by simp
    rw [← hfl, fr_new (lt2 _)]
    simp -implicitDefEqProofs
    refine ⟨by unfold sizeLine; omega, ?_⟩
    rw [← ee, ← te]
    exact (hJ _ _ _).mpr ⟨rfl, dn ++ [(d, c)], _, _, by simpa using he, rfl⟩
  intro ρ S2 hz
  obtain ⟨rfl, dn, u4, u5, he, rfl⟩ := (hJ _ _ _).mp hz
  rw [List.append_nil] at he
  subst he
  clear hz hJ J
  have cl := cuts_len (l := dn) (s := 0) (ns := ns) lp
  have fl := List.length_filter_le (fun n : Int => decide ((0 : Int) ≤ n)) ns
  obtain ⟨es, hes⟩ : ∃ es, es = usort (cutsL dn 0 ns ++ [total dn]) := ⟨_, rfl⟩
  have el : es.length ≤ 1200 := by
    have := usort_le (l := cutsL dn 0 ns ++ [total dn])
    rw [List.length_append, List.length_singleton] at this
    rw [hes]
    omega
  rw [← hes] at hQ
  refine s_seq (fun ρ S1 => S1 = S2 ∧ ρ = [some (encR dn), some (.fl (ns.map D.int)), some (.fl ((cutsL dn 0 ns).map D.int)), some (.int (total dn)), u4, u5, some (.fl (es.map D.int)), none, none, none, none]) ?_ ?_
  · simp -implicitDefEqProofs
    refine ⟨by unfold sizeLine; omega, ?_⟩
    have e1 : (cutsL dn 0 ns).map D.int ++ [D.int (total dn)] = (cutsL dn 0 ns ++ [total dn]).map D.int := by simp
    rw [e1, w_ssrt (ns := cutsL dn 0 ns ++ [total dn]) rfl (by rw [List.length_append, List.length_singleton]; omega), ← hes, fr_new (iL _ _)]
    exact ⟨rfl, rfl⟩
  rintro ρ S1 ⟨rfl, rfl⟩
  refine s_seq (fun ρ S2 => S2 = S1 ++ [.lst []] ∧ ρ = [some (encR dn), some (.fl (ns.map D.int)), some (.fl ((cutsL dn 0 ns).map D.int)), some (.int (total dn)), u4, u5, some (.fl (es.map D.int)), some (.loc S1.length), none, none, none]) ?_ ?_
  · simp -implicitDefEqProofs
  rintro ρ S2 ⟨rfl, rfl⟩
  obtain ⟨L, hL⟩ : ∃ L, L = S1.length := ⟨_, rfl⟩
  rw [← hL]
  have gL : ∀ y, (S1 ++ [y])[L]? = some y := fun y => by rw [hL]; simp
  obtain ⟨pc, hpc⟩ : ∃ pc : Int × Int → Str × Int, ∀ p, pc p = (flipAt dn ns p.1, p.2 - p.1) := ⟨_, fun _ => rfl⟩
  obtain ⟨J, hJ⟩ : ∃ J : List (Int × Int) → Env → Sto → Prop, ∀ r ρ S', J r ρ S' ↔ ∃ (don : List (Int × Int)) (u4 u8 u9 : Option D), don ++ r = es.zip es.tail ∧ S' = S1 ++ [.lst ((joinR (don.map pc)).map encP)] ∧ ρ = [some (encR dn), some (.fl (ns.map D.int)), some (.fl ((cutsL dn 0 ns).map D.int)), some (.int (total dn)), u4, u5, some (.fl (es.map D.int)), some (.loc L), u8, u9, none] := ⟨_, fun _ _ _ => Iff.rfl⟩
  obtain ⟨P, hP⟩ : ∃ P : Env → Sto → Prop, ∀ ρ S', P ρ S' ↔ ∃ (z : SO) (u4 u8 u9 : Option D), S' = S1 ++ [z] ∧ ρ = [some (encR dn), some (.fl (ns.map D.int)), some (.fl ((cutsL dn 0 ns).map D.int)), some (.int (total dn)), u4, u5, some (.fl (es.map D.int)), some (.fl ((joinR (pcsL (flipAt dn ns) es)).map encP)), u8, u9, none] := ⟨_, fun _ _ => Iff.rfl⟩
  refine s_seq P ?_ ?_
  · rw [s_fz]
    simp -implicitDefEqProofs
    have zp : ((es.map D.int).zip (cut (es.map D.int) (some 1) none)).map (fun p => D.tup [p.1, p.2]) = (es.zip es.tail).map fun p : Int × Int => D.tup [.int p.1, .int p.2] := by
      rw [cut1, ← List.map_tail, List.zip_map, List.map_map]
      rfl
    rw [zp]
    refine ws_for_map (m := es.zip es.tail) (f := fun p : Int × Int => D.tup [.int p.1, .int p.2]) J ?_ ?_ ((hJ _ _ _).mpr ⟨[], _, _, _, rfl, rfl, rfl⟩)
    · rintro ⟨lo, hi⟩ r ρ S' hz
      obtain ⟨don, u4, u8, u9, he, rfl, rfl⟩ := (hJ _ _ _).mp hz
      have hdl : don.length ≤ 1200 := by
        have h1 := congrArg List.length he
        rw [List.length_append, List.length_zip] at h1
        omega
      have hjl := joinR_len (l := don.map pc)
      rw [List.length_map] at hjl
      have fin : ∀ u4 u8 u9, J r [some (encR dn), some (.fl (ns.map D.int)), some (.fl ((cutsL dn 0 ns).map D.int)), some (.int (total dn)), u4, u5, some (.fl (es.map D.int)), some (.loc L), u8, u9, none] (S1 ++ [SO.lst ((joinR ((don.map pc) ++ [(flipAt dn ns lo, hi - lo)])).map encP)]) := fun u4 u8 u9 => (hJ _ _ _).mpr ⟨don ++ [(lo, hi)], u4, u8, u9, by simpa using he, by rw [List.map_append]; simp [hpc], rfl⟩
      clear he hz
      show Ws (run W C G (.cons _ _) [some (encR dn), some (.fl (ns.map D.int)), some (.fl ((cutsL dn 0 ns).map D.int)), some (.int (total dn)), u4, u5, some (.fl (es.map D.int)), some (.loc L), some (.int lo), some (.int hi), none] _) _
      refine s_seq (fun ρ S2 => S2 = S1 ++ [.lst ((joinR (don.map pc)).map encP)] ∧ ρ = [some (encR dn), some (.fl (ns.map D.int)), some (.fl ((cutsL dn 0 ns).map D.int)), some (.int (total dn)), some (.str (signL dn lo)), u5, some (.fl (es.map D.int)), some (.loc L), some (.int lo), some (.int hi), none]) ?_ ?_
      · simp -implicitDefEqProofs [sg]
      rintro ρ S2 ⟨rfl, rfl⟩
      have inn : ∀ S, cmpD .In (.int lo) (.fl (ns.map D.int)) S = some (decide (lo ∈ ns)) := by
        intro S
        refine in_cl (n := 1) (m := 1) rfl (fun d hd => ?_) (by decide) (by decide) ?_
        · obtain ⟨z, _, rfl⟩ := List.mem_map.mp hd
          rfl
        · rw [decide_eq_true_iff]
          constructor
          · exact fun h => List.mem_map.mpr ⟨lo, h, rfl⟩
          · intro h
            obtain ⟨z, hz, e⟩ := List.mem_map.mp h
            cases e
            exact hz
      refine s_seq (fun ρ S2 => S2 = S1 ++ [.lst ((joinR (don.map pc)).map encP)] ∧ ρ = [some (encR dn), some (.fl (ns.map D.int)), some (.fl ((cutsL dn 0 ns).map D.int)), some (.int (total dn)), some (.str (flipAt dn ns lo)), u5, some (.fl (es.map D.int)), some (.loc L), some (.int lo), some (.int hi), none]) ?_ ?_
      · by_cases c : lo ∈ ns
        · have fl1 : flipAt dn ns lo = opp (signL dn lo) := by unfold flipAt; rw [if_pos c]
          have let1 : letter (signL dn lo) := (sign_in (hn lo c).1 (hn lo c).2).elim fun p hp => hp.2 ▸ lt p hp.1
          rw [fl1]
          simp -implicitDefEqProofs [inn, c, ddP, dd8]
          rw [dd_opp let1]
        · have fl1 : flipAt dn ns lo = signL dn lo := by unfold flipAt; rw [if_neg c]
          rw [fl1]
          simp -implicitDefEqProofs [inn, c]
      rintro ρ S2 ⟨rfl, rfl⟩
      generalize flipAt dn ns lo = y at *
      rw [joinR_snoc] at fin
      unfold jstep at fin
      simp -implicitDefEqProofs [ne_nil (x := .loc L) (lst_at (gL _)), lst_at (gL _)]
      generalize joinR (don.map pc) = jr at *
      cases hg : jr.getLast? with
      | none =>
        have e1 : jr = [] := List.getLast?_eq_none_iff.mp hg
        rw [hg] at fin
        rw [if_pos e1, if_pos e1]
        refine ⟨isLst_at (gL _), ?_⟩
        rw [mt_append (gL _)]
        rw [e1] at fin ⊢
        refine ⟨by simp [sizeLine], ?_⟩
        have := fin (some (.str y)) (some (.int lo)) (some (.int hi))
        rw [hL, List.set_append_right _ _ (Nat.le_refl _)]
        simpa [hL, encP] using this
      | some p =>
        have e1 : ¬ jr = [] := fun e => by rw [e] at hg; cases hg
        rw [hg] at fin
        rw [if_neg e1]
        have hp : (jr.map encP).getLast? = some (encP p) := by rw [List.getLast?_map, hg]; rfl
        rw [atI_last hp]
        have i0 : ∀ S, ixD (encP p) (.int 0) S = some (.str p.1) := fun S => rfl
        have i1 : ∀ S, ixD (encP p) (.int 1) S = some (.int p.2) := fun S => rfl
        simp only [i0, i1, c_eqS]
        have hm := last_split hg
        generalize jr.dropLast = m at hm fin
        by_cases c1 : p.1 = y
        · simp -implicitDefEqProofs [c1]
          rw [setIx_at (gL _) (j := m.length) (by rw [hm]; simp [ixN]; omega)]
          have := fin (some (.str y)) (some (.int lo)) (some (.int hi))
          simp only [c1, if_true] at this
          rw [hm]
          rw [hL, List.set_append_right _ _ (Nat.le_refl _)]
          have e9 : p.2 + hi - lo = p.2 + (hi - lo) := by omega
          simpa [hL, encP, e9] using this
        · simp -implicitDefEqProofs [c1, isLst_at (gL _), mt_append (gL _)]
          refine ⟨by unfold sizeLine; omega, ?_⟩
          have := fin (some (.str y)) (some (.int lo)) (some (.int hi))
          simp only [c1, if_false] at this
          rw [hL, List.set_append_right _ _ (Nat.le_refl _)]
          simpa [hL, encP] using this
    · intro ρ S' hz
      obtain ⟨don, u4, u8, u9, he, rfl, rfl⟩ := (hJ _ _ _).mp hz
      rw [List.append_nil] at he
      have eq1 : don.map pc = pcsL (flipAt dn ns) es := by
        rw [he]
        exact List.map_congr_left fun p _ => hpc p
      rw [eq1]
      show Ws (fzE 7 _ _ _) _
      rw [fz_old (m := L) rfl (gL _) (by simp)]
      rw [hL, List.set_append_right _ _ (Nat.le_refl _), Nat.sub_self]
      exact (hP _ _).mpr ⟨_, _, _, _, rfl, rfl⟩
  intro ρ S2 hz
  obtain ⟨z, u4, u8, u9, rfl, rfl⟩ := (hP _ _).mp hz
  simp -implicitDefEqProofs
  have lt2 : (joinR (pcsL (flipAt dn ns) es)).all ((fun d => D.lt L d) ∘ encP) = true := List.all_eq_true.mpr fun p _ => lt_encP
  rw [lt2]
  simp
  exact hQ
theorem w_due {A B : Str} {l : Runs} {ns ms : List Int} (o : okR A B l = true) (hA : opp A = B) (hB : opp B = A) (lA : letter A) (lB : letter B) (ll : l.length ≤ 500) (ln : ns.length ≤ 300) (hn : ∀ n ∈ ns, 0 ≤ n ∧ n < total l) (am : Asc ms) (hm : ∀ n, n ∈ ms ↔ n ∈ ns) (hQ : Q (encR (turnR l ms)) S) :
    WR (CF (k + 2) f__law_turned [encR l, .fl (ns.map D.int)] S) Q E := by
  refine w_turned (ok_pos o) (fun p hp => ?_) ll ln hn ?_
  · rcases (okR_mem o hp).1 with e | e <;> rw [e] <;> assumption
  · rw [cut_turn o hA hB hn am hm]
    exact hQ
end
end CC
namespace CC
open PySem PySem.Spec PyProof.Rows L2
theorem fr_bag {S J : Sto} {n m : Nat} {b b' : SO} {ds : List D} {Q : D → Sto → Prop} {E : Nat → List D → Sto → Prop} (hb : ∀ j, b'.lt j = true) (q : ∀ j, ltL j ds = true) (hm : m = S.length + J.length) : WR (trim (S.set n b ++ J) (frzD (.loc m) ((S.set n b' ++ J) ++ [.lst ds]))) Q E = Q (.fl ds) (S.set n b' ++ J) := by
  have lm : m = (S.set n b' ++ J).length := by rw [hm, List.length_append, List.length_set]
  have g : ((S.set n b' ++ J) ++ [SO.lst ds])[m]? = some (.lst ds) := by rw [lm]; simp
  rw [fr_at g, q]
  have e : ((S.set n b' ++ J) ++ [SO.lst ds]).set m (.frz ds) = (S.set n b' ++ J) ++ [.frz ds] := by
    rw [lm, List.set_append_right _ _ (Nat.le_refl _)]
    simp
  rw [e, cut_gen (by simp) ?_]
  intro i so hi
  by_cases hl : i < S.length
  · rw [List.getElem?_append_left (by simpa using hl)] at hi
    by_cases hn : n = i
    · subst hn
      rw [List.getElem?_set_self hl] at hi
      cases hi
      exact .inr (hb _)
    · rw [List.getElem?_set_ne hn] at hi
      refine .inl ?_
      rw [List.getElem?_append_left (by simpa using hl), List.getElem?_set_ne hn]
      exact hi
  · refine .inl ?_
    rw [List.getElem?_append_right (by simpa using hl), List.length_set] at hi ⊢
    exact hi
section
variable {k : Nat} {v : D} {S : Sto} {Q : D → Sto → Prop} {E : Nat → List D → Sto → Prop}
theorem w_source {n i : Nat} {ns : List Int} (h : S[n]? = some (.frz (ns.map D.int))) (hi : i < 1000) (hQ : ∀ b, BagOk b 0 → Q (.loc S.length) (S ++ [b])) : WR (CF (k + 1) f__law_source [.loc n, .int i] S) Q E := by
  rw [cf_run (fd := fd__law_source) rfl rfl]
  have pw : powOk 10 18 = true := by decide +kernel
  have pw2 : powOk 10 40 = true := by decide +kernel
  have mo : mulOk 39916801 (i : Nat) = true := mulOk_of (k := 40) (l := 40) (by decide) (by decide) (by decide) (by omega) (by omega) (by decide) (by decide)
  have fin : ∀ c : Int, Q (.loc S.length) (S ++ [.lst [.int (if (1000000000000000000 : Int) < (if c < 0 then -c else c) then (if c < 0 then -c else c) - 1000000000000000000 else 0), .int (c % 10000000000000000000000000000000000000121 + 39916801 * (i : Nat)), .int 0]]) := fun c => by
    have c0 : 0 ≤ c % 10000000000000000000000000000000000000121 := Int.emod_nonneg _ (by decide)
    have c1 : c % 10000000000000000000000000000000000000121 < 10000000000000000000000000000000000000121 := Int.emod_lt_of_pos _ (by decide)
    refine hQ _ ⟨_, _, _, rfl, ?_, by omega, by omega, by omega, by omega⟩
    split <;> split <;> omega
  simp [fd__law_source, bd__law_source, startE, lst_frz h]
  split
  · rename_i hlt
    have ha : atI (ns.map D.int) (i : Nat) = some (.int (ns[i]'(by omega))) := by
      rw [atI_of (by omega) (by simpa using hlt)]
      simp
    rw [ha]
    generalize ns[i]'(by omega) = c
    simp [pw, pw2, mo]
    exact fin c
  · refine ⟨pw, pw2, mo, ?_⟩
    simpa using fin 0
theorem w_runs {n : Nat} {b : SO} {c mo wi : Int} {A B z : Str} (hab : A ≠ B) (z0 : ∀ S, ixD (.str z) (.int 0) S = some (.str A)) (z1 : ∀ S, ixD (.str z) (.int 1) S = some (.str B)) (h : S[n]? = some b) (hb : BagOk b c) (hc : c < 2 ^ 59) (m0 : 0 < mo) (m1 : mo ≤ 20) (w0 : 0 < wi) (w1 : wi ≤ 10 ^ 30)
    (hQ : ∀ l b', okR A B l = true → (l.length : Int) ≤ mo → BndR (10 ^ 30) l → BagOk b' (c + 100) → Q (encR l) (S.set n b')) : WR (CF (k + 2) f__law_runs [.loc n, .str z, .int mo, .int wi] S) Q E := by
  rw [cf_run (fd := fd__law_runs) rfl rfl]
  simp [fd__law_runs, bd__law_runs, startE]
  refine w_draw h hb (by omega) (by decide) (by decide) fun t b1 r0 r1 hb1 => ?_
  simp
  refine w_draw (old_get (set_get h)) hb1 (by omega) m0 (by omega) fun m b2 q0 q1 hb2 => ?_
  have hn := old_lt h
  rw [old_set (set_get h), List.set_set]
  simp [small62_of (i := 1 + m) (by omega) (by omega)]
  obtain ⟨L, hL⟩ : ∃ L, L = S.length := ⟨_, rfl⟩
  rw [← hL]
  obtain ⟨J, hJ⟩ : ∃ J : Nat → Env → Sto → Prop, ∀ i ρ S1, J i ρ S1 ↔ ∃ (l : Runs) (b' : SO) (u6 u7 : Option D), ρ = [some (.loc n), some (.str z), some (.int mo), some (.int wi), some (.int t), some (.loc L), u6, u7] ∧ l.length = i ∧ S1 = S.set n b' ++ [.lst (l.map encP)] ∧ BagOk b' (c + 2 + 3 * (i : Nat)) ∧ AltR A B t l ∧ BndR (10 ^ 30) l := ⟨_, fun _ _ _ => Iff.rfl⟩
  refine ws_range J ?_ ?_ ((hJ _ _ _).mpr ⟨[], b2, _, _, rfl, rfl, rfl, hb2.le (by omega), (by intro j p h; simp at h), (by intro p h; cases h)⟩)
  · intro i ρ S1 hi hz
    obtain ⟨l, b', u6, u7, rfl, hl, rfl, hb', ha, hB⟩ := (hJ _ _ _).mp hz
    have gL : ∀ b' x, (S.set n b' ++ [x])[L]? = some x := fun b' x => by rw [hL]; have : (S.set n b').length = S.length := List.length_set; rw [← this]; simp
    simp
    refine w_draw (j := 3) (old_get (set_get h)) hb' (by omega) (by decide) (by decide) fun c1 b3 c10 c11 hb3 => ?_
    rw [old_set (set_get h), List.set_set]
    simp
    refine w_draw (j := wi) (old_get (set_get h)) hb3 (by omega) w0 (by omega) fun c2 b4 c20 c21 hb4 => ?_
    rw [old_set (set_get h), List.set_set]
    have ad : ∀ T, binD .Add (.int 1) (.int c2) T = R.ok (.int (1 + c2)) T := fun _ => rfl
    rw [ad, w_ok, fr_bag (fun j => hb4.ltS) (fun j => by simp) (by simp)]
    refine w_draw (j := 3) (old_get (set_get h)) hb4 (by omega) (by decide) (by decide) fun q b5 q0 q1 hb5 => ?_
    rw [old_set (set_get h), List.set_set]
    have fin : ∀ x r, x = (if (t + (i : Nat)) % 2 = 0 then A else B) → 0 ≤ r → r < 10 ^ 30 → J (i + 1) [some (.loc n), some (.str z), some (.int mo), some (.int wi), some (.int t), some (.loc L), some (.int (i : Nat)), some (.int (1 + r))] (S.set n b5 ++ [.lst (l.map encP ++ [.tup [.str x, .int (1 + r)]])]) := by
      intro x r hx r0 r1
      refine (hJ _ _ _).mpr ⟨l ++ [(x, 1 + r)], b5, _, _, rfl, by simp [hl], by rw [List.map_append]; rfl, hb5.le (by omega), ha.add (by rw [hl]; exact hx), hB.add (by show 1 ≤ 1 + r; omega) (by show 1 + r ≤ 10 ^ 30; omega)⟩
    have last : ∀ r, 0 ≤ r → r < 10 ^ 30 → isLst (.loc L) (S.set n b5 ++ [.lst (l.map encP)]) = true ∧ optP (ixD (.str z) (.int ((t + (i : Nat)) % 2)) (S.set n b5 ++ [.lst (l.map encP)])) fun a_1 =>
        WR (mtD .append (.loc L) [.tup [a_1, .int (1 + r)]] (S.set n b5 ++ [.lst (l.map encP)])) (fun x S1 => J (i + 1) [some (.loc n), some (.str z), some (.int mo), some (.int wi), some (.int t), some (.loc L), some (.int (i : Nat)), some (.int (1 + r))] S1) (fun c q S1 => E c q (cutS S (ltL L q) S1)) := fun r r0 r1 => by
      refine ⟨isLst_at (gL b5 _), ?_⟩
      rcases (by omega : (t + (i : Nat)) % 2 = 0 ∨ (t + (i : Nat)) % 2 = 1) with e | e
      · rw [e, z0]
        simp [mt_append (gL b5 _)]
        refine ⟨by unfold sizeLine; omega, ?_⟩
        have := fin A r (by rw [if_pos e]) r0 r1
        rw [List.set_append_right _ _ (by rw [List.length_set]; omega)]
        simpa [hL] using this
      · rw [e, z1]
        simp [mt_append (gL b5 _)]
        refine ⟨by unfold sizeLine; omega, ?_⟩
        have := fin B r (by rw [if_neg (by omega)]) r0 r1
        rw [List.set_append_right _ _ (by rw [List.length_set]; omega)]
        simpa [hL] using this
    have lq : q = 0 ∨ q = 1 ∨ q = 2 := by omega
    rcases lq with rfl | rfl | rfl
    · rw [show ∀ T, ixD (D.fl [D.int 1, D.int (1 + c1), D.int (1 + c2)]) (D.int 0) T = some (.int (1 + 0)) from fun _ => rfl]
      have z := last 0 (by decide) (by decide)
      simp only [optP] at z
      exact z
    · rw [show ∀ T, ixD (D.fl [D.int 1, D.int (1 + c1), D.int (1 + c2)]) (D.int 1) T = some (.int (1 + c1)) from fun _ => rfl]
      have z := last c1 c10 (by omega)
      simp only [optP] at z
      exact z
    · rw [show ∀ T, ixD (D.fl [D.int 1, D.int (1 + c1), D.int (1 + c2)]) (D.int 2) T = some (.int (1 + c2)) from fun _ => rfl]
      have z := last c2 c20 (by omega)
      simp only [optP] at z
      exact z
  · intro ρ S1 hz
    obtain ⟨l, b', u6, u7, rfl, hl, rfl, hb', ha, hB⟩ := (hJ _ _ _).mp hz
    have gL : (S.set n b' ++ [SO.lst (l.map encP)])[L]? = some (.lst (l.map encP)) := by rw [hL]; have : (S.set n b').length = S.length := List.length_set; rw [← this]; simp
    show Ws (fzE 5 _ _ _) _
    rw [fz_old (m := L) rfl gL (by simp)]
    simp
    have e : (S.set n b' ++ [SO.lst (l.map encP)]).set L (.frz (l.map encP)) = S.set n b' ++ [.frz (l.map encP)] := by
      rw [List.set_append_right _ _ (by rw [List.length_set]; omega)]
      simp [hL]
    have lt : l.all ((fun d => D.lt L d) ∘ encP) = true := List.all_eq_true.mpr fun p _ => lt_encP
    rw [e, lt, cut_set_app hb'.ltS]
    exact hQ l b' (okR_alt hab (by omega) ha hB) (by omega) hB (hb'.le (by omega))
theorem w_town {n : Nat} {b : SO} {c mo wi : Int} (h : S[n]? = some b) (hb : BagOk b c) (hc : c < 2 ^ 58) (m0 : 0 < mo) (m1 : mo ≤ 20) (w0 : 0 < wi) (w1 : wi ≤ 10 ^ 30)
    (hQ : ∀ x y b', TownB x y → BagOk b' (c + 200) → Q (encC x y) (S.set n b')) : WR (CF (k + 3) f__law_town [.loc n, .int mo, .int wi] S) Q E := by
  rw [cf_run (fd := fd__law_town) rfl rfl]
  simp [fd__law_town, bd__law_town, startE]
  refine w_runs (A := "E") (B := "W") (by decide) (fun _ => rfl) (fun _ => rfl) h hb (by omega) m0 m1 w0 w1 fun x b1 ox lx bx hb1 => ?_
  simp
  refine w_runs (A := "N") (B := "S") (by decide) (fun _ => rfl) (fun _ => rfl) (set_get h) hb1 (by omega) m0 m1 w0 w1 fun y b2 oy ly by_ hb2 => ?_
  simp
  have := hQ x y b2 ⟨ox, oy, by omega, by omega, bx, by_⟩ (hb2.le (by omega))
  simpa [encC] using this
end
end CC
namespace CC
open PySem PySem.Spec PyProof.Rows L2
section
variable {k : Nat} {v : D} {S : Sto} {Q : D → Sto → Prop} {E : Nat → List D → Sto → Prop}
theorem w_streets {n : Nat} {b : SO} {c mo : Int} {A B z : Str} (z0 : ∀ S, ixD (.str z) (.int 0) S = some (.str A)) (z1 : ∀ S, ixD (.str z) (.int 1) S = some (.str B)) (h : S[n]? = some b) (hb : BagOk b c) (hc : c < 2 ^ 59) (m0 : 0 < mo) (m1 : mo ≤ 20)
    (hQ : ∀ l b', l ≠ [] → (l.length : Int) ≤ mo → (∀ x ∈ l, x = A ∨ x = B) → BagOk b' (c + 100) → Q (.loc S.length) (S.set n b' ++ [.lst (l.map D.str)])) : WR (CF (k + 2) f__law_streets [.loc n, .str z, .int mo] S) Q E := by
  rw [cf_run (fd := fd__law_streets) rfl rfl]
  simp [fd__law_streets, bd__law_streets, startE]
  refine w_draw h hb (by omega) (by decide) (by decide) fun w b1 w0 w1 hb1 => ?_
  refine w_draw (j := 2) (set_get h) hb1 (by omega) (by decide) (by decide) fun f b2 f0 f1 hb2 => ?_
  simp
  refine w_draw (j := mo) (old_get (set_get h)) hb2 (by omega) m0 (by omega) fun m b3 q0 q1 hb3 => ?_
  have hn := old_lt h
  rw [old_set (set_get h), List.set_set]
  simp [small62_of (i := 1 + m) (by omega) (by omega)]
  obtain ⟨L, hL⟩ : ∃ L, L = S.length := ⟨_, rfl⟩
  rw [← hL]
  obtain ⟨J, hJ⟩ : ∃ J : Nat → Env → Sto → Prop, ∀ i ρ S1, J i ρ S1 ↔ ∃ (l : List Str) (b' : SO) (f : Int) (u6 : Option D), ρ = [some (.loc n), some (.str z), some (.int mo), some (.int w), some (.int f), some (.loc L), u6] ∧ 0 ≤ f ∧ f < 2 ∧ l.length = i ∧ S1 = S.set n b' ++ [.lst (l.map D.str)] ∧ BagOk b' (c + 3 + 2 * (i : Nat)) ∧ ∀ x ∈ l, x = A ∨ x = B := ⟨_, fun _ _ _ => Iff.rfl⟩
  refine ws_range J ?_ ?_ ((hJ _ _ _).mpr ⟨[], b3, f, _, rfl, f0, f1, rfl, rfl, hb3.le (by omega), by simp⟩)
  · intro i ρ S1 hi hz
    obtain ⟨l, b', f, u6, rfl, f0, f1, hl, rfl, hb', ha⟩ := (hJ _ _ _).mp hz
    have gL : ∀ b' x, (S.set n b' ++ [x])[L]? = some x := fun b' x => by rw [hL]; have : (S.set n b').length = S.length := List.length_set; rw [← this]; simp
    simp
    refine w_draw (j := 2) (old_get (set_get h)) hb' (by omega) (by decide) (by decide) fun c1 b4 c10 c11 hb4 => ?_
    rw [old_set (set_get h), List.set_set]
    refine w_draw (j := 4) (old_get (set_get h)) hb4 (by omega) (by decide) (by decide) fun c2 b5 c20 c21 hb5 => ?_
    rw [old_set (set_get h), List.set_set]
    have ce : ∀ S, cmpD .Eq (.int c2) (.int 0) S = some (c2 == 0) := fun _ => rfl
    rw [ce]
    have h2 : ∀ g : Int, 0 ≤ g → g < 2 → ∃ x, (x = A ∨ x = B) ∧ ∀ S, ixD (.str z) (.int g) S = some (.str x) := fun g g0 g1 => by
      rcases (by omega : g = 0 ∨ g = 1) with rfl | rfl
      · exact ⟨A, .inl rfl, z0⟩
      · exact ⟨B, .inr rfl, z1⟩
    have fin : ∀ g : Int, 0 ≤ g → g < 2 → isLst (.loc L) (S.set n b5 ++ [.lst (l.map D.str)]) = true ∧ optP (ixD (.str z) (.int g) (S.set n b5 ++ [.lst (l.map D.str)])) fun a_1 => WR (mtD .append (.loc L) [a_1] (S.set n b5 ++ [.lst (l.map D.str)])) (fun x S1 => J (i + 1) [some (.loc n), some (.str z), some (.int mo), some (.int w), some (.int g), some (.loc L), some (.int (i : Nat))] S1) (fun c q S1 => E c q (cutS S (ltL L q) S1)) := fun g g0 g1 => by
      obtain ⟨x, hx, hi⟩ := h2 g g0 g1
      rw [hi, optP_some, mt_append (gL b5 _)]
      refine ⟨isLst_at (gL b5 _), by rw [List.length_map]; unfold sizeLine; omega, ?_⟩
      refine (hJ _ _ _).mpr ⟨l ++ [x], b5, g, _, rfl, g0, g1, by simp [hl], ?_, hb5.le (by omega), fun y hy => ?_⟩
      · rw [List.set_append_right _ _ (by rw [List.length_set]; omega)]
        simp [hL]
      · rcases List.mem_append.mp hy with hy | hy
        · exact ha y hy
        · rw [List.mem_singleton.mp hy]; exact hx
    simp only
    rw [fr_bag (fun j => hb5.ltS) (fun j => by simp) (by simp)]
    rcases (by omega : w = 0 ∨ w = 1 ∨ w = 2 ∨ w = 3) with rfl | rfl | rfl | rfl
    · exact fin c1 c10 c11
    · exact fin _ (Int.emod_nonneg _ (by decide)) (Int.emod_lt_of_pos _ (by decide))
    · exact fin f f0 f1
    · exact fin (1 - f) (by omega) (by omega)
  · intro ρ S1 hz
    obtain ⟨l, b', f, u6, rfl, f0, f1, hl, rfl, hb', ha⟩ := (hJ _ _ _).mp hz
    simp
    rw [hL]
    exact hQ l b' (fun e => by rw [e] at hl; simp at hl; omega) (by omega) ha (hb'.le (by omega))
end
end CC
namespace CC
open PySem PySem.Spec PyProof.Rows L2
section
variable {k : Nat} {v : D} {S : Sto} {Q : D → Sto → Prop} {E : Nat → List D → Sto → Prop}
theorem e_packed {x : D} {l : List Str} (hx : lstD S x = some (l.map D.str)) (hl : l.length ≤ 1000) : WR (CF (k + 1) f__law_packed [x] S) Q E = Q (encR (rns l)) S := by
  refine WR_eq fun {Q E} h => ?_
  rw [cf_run (fd := fd__law_packed) rfl rfl]
  simp [fd__law_packed, bd__law_packed, startE]
  obtain ⟨L, hL⟩ : ∃ L, L = S.length := ⟨_, rfl⟩
  rw [← hL]
  refine so_ofG (lstD_app hx) fun src hw => ?_
  obtain ⟨J, hJ⟩ : ∃ J : List Str → Env → Sto → Prop, ∀ r ρ S1, J r ρ S1 ↔ ∃ (dn : List Str) (u : Option D), dn ++ r = l ∧ ρ = [some x, some (.loc L), u] ∧ S1 = S ++ [SO.lst ((rns dn).map encP)] := ⟨_, fun _ _ _ => Iff.rfl⟩
  have gL : ∀ y, (S ++ [y])[L]? = some y := fun y => by rw [hL]; simp
  refine ws_walk (m := l) (f := D.str) J ?_ ?_ ?_ ((hJ _ _ _).mpr ⟨[], _, rfl, rfl, rfl⟩)
  · intro r ρ S' hz
    obtain ⟨dn, u, _, rfl, rfl⟩ := (hJ _ _ _).mp hz
    exact hw _ (lstD_app hx)
  · intro d r ρ S' hd hz
    obtain ⟨dn, u, he, rfl, rfl⟩ := (hJ _ _ _).mp hz
    simp [ne_nil (x := .loc L) (lst_at (gL _)), lst_at (gL _)]
    have fin : ∀ u, J r [some x, some (.loc L), u] (S ++ [SO.lst ((rns (dn ++ [d])).map encP)]) := fun u => (hJ _ _ _).mpr ⟨dn ++ [d], u, by simpa using he, rfl, rfl⟩
    have hln : (rns dn).length ≤ 1000 := by
      have : ∀ m : List Str, (rns m).length ≤ m.length := by
        refine snoc_ind (by simp [rns]) fun m y ih => ?_
        rw [rns_snoc]
        unfold rstep
        split
        · split
          · simp; omega
          · simp; omega
        · simp; omega
      have h2 := this dn
      have h3 : dn.length ≤ l.length := by rw [← he]; simp
      omega
    rw [rns_snoc] at fin
    unfold rstep at fin
    cases hg : (rns dn).getLast? with
    | none =>
      have e0 : rns dn = [] := List.getLast?_eq_none_iff.mp hg
      rw [hg] at fin
      rw [if_pos e0, if_pos e0]
      refine ⟨isLst_at (gL _), ?_⟩
      rw [mt_append (gL _)]
      rw [e0] at fin ⊢
      refine ⟨by simp [sizeLine], ?_⟩
      have := fin (some (.str d))
      rw [hL, List.set_append_right _ _ (Nat.le_refl _)]
      simpa [hL, encP] using this
    | some p =>
      have e0 : ¬ rns dn = [] := fun e => by rw [e] at hg; cases hg
      rw [hg] at fin
      rw [if_neg e0]
      have hp : ((rns dn).map encP).getLast? = some (encP p) := by rw [List.getLast?_map, hg]; rfl
      rw [atI_last hp]
      have i0 : ∀ S, ixD (encP p) (.int 0) S = some (.str p.1) := fun S => rfl
      have i1 : ∀ S, ixD (encP p) (.int 1) S = some (.int p.2) := fun S => rfl
      simp only [i0, i1, c_eqS]
      have hsplit : ∃ m, rns dn = m ++ [p] := by
        have e1 := List.dropLast_concat_getLast e0
        have e2 : (rns dn).getLast e0 = p := by
          rw [List.getLast?_eq_some_getLast e0] at hg
          exact Option.some.inj hg
        rw [e2] at e1
        exact ⟨_, e1.symm⟩
      obtain ⟨m, hm⟩ := hsplit
      by_cases c : p.1 = d
      · simp [c]
        rw [setIx_at (gL _) (j := m.length) (by rw [hm]; simp [ixN]; omega)]
        have := fin (some (.str d))
        simp only [c, if_true] at this
        rw [hm] at this ⊢
        rw [hL, List.set_append_right _ _ (Nat.le_refl _)]
        simpa [hL, encP] using this
      · simp [c, isLst_at (gL _), mt_append (gL _)]
        refine ⟨by unfold sizeLine; omega, ?_⟩
        have := fin (some (.str d))
        simp only [c, if_false] at this
        rw [hL, List.set_append_right _ _ (Nat.le_refl _)]
        simpa [hL, encP] using this
  · intro ρ S' hz
    obtain ⟨dn, u, he, rfl, rfl⟩ := (hJ _ _ _).mp hz
    rw [List.append_nil] at he
    subst he
    show Ws (fzE 1 _ _ _) _
    rw [fz_old (m := L) rfl (gL _) (by simp)]
    simp
    have lt : (rns dn).all ((fun d => D.lt L d) ∘ encP) = true := List.all_eq_true.mpr fun p _ => lt_encP
    rw [lt, hL, List.set_append_right _ _ (Nat.le_refl _)]
    simp
    exact h
theorem e_city_of {r c : D} {R C : List Str} (hr : lstD S r = some (R.map D.str)) (hc : lstD S c = some (C.map D.str)) (lr : R.length ≤ 1000) (lc : C.length ≤ 1000) : WR (CF (k + 2) f__law_city_of [r, c] S) Q E = Q (encC (rns R) (rns C)) S := by
  rw [cf_run (fd := fd__law_city_of) rfl rfl]
  simp [fd__law_city_of, bd__law_city_of, startE, ↓e_packed hr lr, ↓e_packed hc lc]
  rfl
end
end CC
namespace CC
open PySem PySem.Spec PyProof.Rows L2
section
variable {k : Nat} {v : D} {S : Sto} {Q : D → Sto → Prop} {E : Nat → List D → Sto → Prop}
def wdS (f : Bool) : Str := if f = true then "column" else "row"
theorem w_some {n : Nat} {b : SO} {c mo : Int} {f : Bool} {l : Runs} (lp : ∀ p ∈ l, 1 ≤ p.2) (l0 : 0 < total l) (lT : total l < 2 ^ 150) (ll : l.length ≤ 40) (m0 : 0 ≤ mo) (m1 : mo ≤ 9) (h : S[n]? = some b) (hb : BagOk b c) (hc : c < 2 ^ 59)
    (hQ : ∀ (zs : List Int) b', zs.Nodup → (∀ z ∈ zs, 0 ≤ z ∧ z < total l) → (zs.length : Int) ≤ mo → BagOk b' (c + 30) → Q (.fl (zs.map fun z => encSt (f, z))) (S.set n b')) : WR (CF (k + 2) f__law_some [.loc n, encR l, .str (wdS f), .int mo] S) Q E := by
  have hn := old_lt h
  have dr : ∀ {j c : Int} {b : SO} {S : Sto} {Q E}, S[n]? = some b → BagOk b c → c < 2 ^ 60 → 0 < j → j < 2 ^ 200 → (∀ r b', 0 ≤ r → r < j → BagOk b' (c + 1) → Q (.int r) (S.set n b')) → WR (CF (k + 1) f__law_draw [.loc n, .int j] S) Q E := fun h1 h2 h3 h4 h5 h6 => w_draw (k := k) h1 h2 h3 h4 h5 h6
  rw [cf_run (fd := fd__law_some) rfl rfl]
  show Ws (run W (CF (k + 1)) G bd__law_some [some (.loc n), some (encR l), some (.str (wdS f)), some (.int mo), none, none, none, none, none, none, none] S) _
  unfold bd__law_some
  generalize CF (k + 1) = C at *
  have wok : PyData.strOk (wdS f) = true := by cases f <;> decide +kernel
  generalize hwd : wdS f = wd at *
  have iL : ∀ (m : List Int) j, ltL j (m.map D.int) = true := fun m j => ltL_map' fun _ => by simp
  refine s_seq (fun ρ S1 => S1 = S ∧ ρ = [some (.loc n), some (encR l), some (.str wd), some (.int mo), some (.fl []), some (.int 0), none, none, none, none, none]) ?_ ?_
  · simp -implicitDefEqProofs
  rintro ρ S1 ⟨rfl, rfl⟩
  obtain ⟨J, hJ⟩ : ∃ J : Runs → Env → Sto → Prop, ∀ r ρ S', J r ρ S' ↔ S' = S1 ∧ ∃ (dn : Runs) (ps : List Int) (u6 u7 : Option D), dn ++ r = l ∧ ps.length = 3 * dn.length ∧ (∀ z ∈ ps, 0 ≤ z ∧ z < total dn) ∧ ρ = [some (.loc n), some (encR l), some (.str wd), some (.int mo), some (.fl (ps.map D.int)), some (.int (total dn)), u6, u7, none, none, none] := ⟨_, fun _ _ _ => Iff.rfl⟩
  refine s_seq (J []) ?_ ?_
  · simp -implicitDefEqProofs [encR]
    refine ws_for_map (m := l) (f := encP) J ?_ (fun _ _ h => h) ((hJ _ _ _).mpr ⟨rfl, [], [], _, _, rfl, rfl, (fun _ h => nomatch h), rfl⟩)
    rintro ⟨d, e⟩ r ρ S' hz
    obtain ⟨rfl, dn, ps, u6, u7, he, hl, hp, rfl⟩ := (hJ _ _ _).mp hz
    clear hz
    have e1 : 1 ≤ e := lp (d, e) (by rw [← he]; simp)
    have tn : 0 ≤ total dn := tot0 fun q hq => by have := lp q (by rw [← he]; exact List.mem_append_left _ hq); omega
    have te : total (dn ++ [(d, e)]) = total dn + e := by
      rw [total_append]
      show total dn + (e + 0) = _
      omega
    have ldn : dn.length + (r.length + 1) = l.length := by rw [← he]; simp
    have e0 : encP (d, e) = .tup [.str d, .int e] := rfl
    rw [e0]
    simp -implicitDefEqProofs
    refine ⟨by unfold sizeLine; omega, ?_⟩
    refine (hJ _ _ _).mpr ⟨rfl, dn ++ [(d, e)], ps ++ [total dn, total dn + e - 1, total dn + if e - 1 < 1 then e - 1 else 1], some (.str d), some (.int e), by simpa using he, by simp [hl]; omega, fun z hz => ?_, by rw [te]; simp⟩
    rw [te]
    rcases List.mem_append.mp hz with hz | hz
    · have := hp z hz
      omega
    · simp only [List.mem_cons, List.not_mem_nil, or_false] at hz
      rcases hz with rfl | rfl | rfl
      · omega
      · omega
      · split <;> omega
  intro ρ S2 hz
  obtain ⟨rfl, dn, ps, u6, u7, he, hl, hp, rfl⟩ := (hJ _ _ _).mp hz
  rw [List.append_nil] at he
  subst he
  clear hz hJ J
  obtain ⟨P1, hP1⟩ : ∃ P : Env → Sto → Prop, ∀ ρ S', P ρ S' ↔ ∃ (b' : SO) (qs : List Int), BagOk b' (c + 5) ∧ qs ≠ [] ∧ qs.length ≤ 200 ∧ (∀ z ∈ qs, 0 ≤ z ∧ z < total dn) ∧ S' = S2.set n b' ∧ ρ = [some (.loc n), some (encR dn), some (.str wd), some (.int mo), some (.fl (qs.map D.int)), some (.int (total dn)), u6, u7, none, none, none] := ⟨_, fun _ _ => Iff.rfl⟩
  obtain ⟨L, hL⟩ : ∃ L : Nat → List D → Sto → Prop, ∀ q acc S3, L q acc S3 ↔ ∃ (b : SO) (ds : List Int), BagOk b (c + q) ∧ acc = ds.map D.int ∧ ds.length = q ∧ (∀ z ∈ ds, 0 ≤ z ∧ z < total dn) ∧ S3 = S2.set n b := ⟨_, fun _ _ _ => Iff.rfl⟩
  have sS : S2.set n b = S2 := by
    obtain ⟨hlt, e⟩ := List.getElem?_eq_some_iff.mp h
    rw [← e]
    exact List.set_getElem_self hlt
  have fb : ∀ {b6 : SO} {m : Nat} {ds : List D} {Q E}, (∀ j, b6.lt j = true) → (∀ j, ltL j ds = true) → m = S2.length → WR (trim S2 (frzD (.loc m) (S2.set n b6 ++ [.lst ds]))) Q E = Q (.fl ds) (S2.set n b6) := fun {b6 m ds Q E} h1 h2 hm => by
    have := fr_bag (S := S2) (J := []) (n := n) (m := m) (b := b) (b' := b6) (ds := ds) (Q := Q) (E := E) h1 h2 (by simp [hm])
    rw [List.append_nil, List.append_nil, sS] at this
    exact this
  refine s_seq P1 ?_ ?_
  · simp -implicitDefEqProofs
    refine ⟨by decide +kernel, ?_⟩
    refine wp_lcl 5 L ?_ ?_ _ 0 [] _ (Nat.zero_le _) (by show 5 < 0 + ((rangeD 0 5).length + 1); rw [rangeD_len]; decide) ((hL _ _ _).mpr ⟨b, [], hb.le (by omega), rfl, rfl, (fun _ h => nomatch h), sS.symm⟩)
    · intro q acc S3 hq hz
      obtain ⟨b6, ds, hb6, rfl, lq, hs, rfl⟩ := (hL _ _ _).mp hz
      refine ⟨.int (0 + (q : Nat)), _, by show some ((rangeD 0 5)[q]?) = _; rw [rd_get hq], rfl, ?_⟩
      simp -implicitDefEqProofs
      refine dr (set_get h) hb6 (by omega) l0 (Int.lt_trans lT (by decide +kernel)) fun a b7 a0 a1 hb7 => ?_
      rw [List.set_set]
      refine ⟨by unfold sizeLine; omega, (hL _ _ _).mpr ⟨b7, ds ++ [a], hb7.le (by push_cast; omega), by simp, by simp [lq], fun r hr => ?_, rfl⟩⟩
      rcases List.mem_append.mp hr with hr | hr
      · exact hs r hr
      · rw [List.mem_singleton.mp hr]
        exact ⟨a0, a1⟩
    · intro acc S3 hz
      obtain ⟨b6, ds, hb6, rfl, lq, hs, rfl⟩ := (hL _ _ _).mp hz
      refine ⟨by show some ((rangeD 0 5)[5]?) = _; rw [List.getElem?_eq_none (by rw [rangeD_len]; decide)], ?_⟩
      rw [fb (fun j => hb6.ltS) (iL _) List.length_set]
      simp -implicitDefEqProofs
      refine ⟨by unfold sizeLine; omega, ?_⟩
      have e1 : ps.map D.int ++ ds.map D.int = (ps ++ ds).map D.int := by rw [List.map_append]
      rw [e1, fb (fun j => hb6.ltS) (iL _) rfl]
      refine (hP1 _ _).mpr ⟨b6, ps ++ ds, hb6, (fun e => by rw [(List.append_eq_nil_iff.mp e).2] at lq; exact absurd lq (by decide)), (by rw [List.length_append]; omega), fun z hz => ?_, rfl, rfl⟩
      rcases List.mem_append.mp hz with hz | hz
      · exact hp z hz
      · exact hs z hz
  intro ρ S3 hz
  obtain ⟨b6, qs, hb6, qn, ql, hq, rfl, rfl⟩ := (hP1 _ _).mp hz
  clear hz hP1 P1 hL L hp hl fb
  obtain ⟨L, hL⟩ : ∃ L, L = S2.length := ⟨_, rfl⟩
  have gL : ∀ b' y, (S2.set n b' ++ [y])[L]? = some y := fun b' y => by rw [hL, List.getElem?_append_right (by simp)]; simp
  have uL : ∀ b' y y', (S2.set n b' ++ [y]).set L y' = S2.set n b' ++ [y'] := fun b' y y' => by rw [hL, List.set_append_right _ _ (by simp)]; simp
  have g1 : ∀ b' J, (S2.set n b' ++ J)[n]? = some b' := fun b' J => by rw [List.getElem?_append_left (by simpa using hn)]; exact set_get h
  have u1 : ∀ b' b'' J, (S2.set n b' ++ J).set n b'' = S2.set n b'' ++ J := fun b' b'' J => by rw [List.set_append_left _ _ (by simpa using hn), List.set_set]
  refine s_seq (fun ρ S1 => S1 = S2.set n b6 ++ [.lst []] ∧ ρ = [some (.loc n), some (encR dn), some (.str wd), some (.int mo), some (.fl (qs.map D.int)), some (.int (total dn)), u6, u7, none, some (.loc L), none]) ?_ ?_
  · simp -implicitDefEqProofs [hL]
  rintro ρ S1 ⟨rfl, rfl⟩
  have en : ∀ z, encSt (f, z) = .tup [.str wd, .int z] := fun z => by rw [← hwd]; rfl
  obtain ⟨J, hJ⟩ : ∃ J : Nat → Env → Sto → Prop, ∀ i ρ S', J i ρ S' ↔ ∃ (b' : SO) (zs : List Int) (u8 u10 : Option D), BagOk b' (c + 6 + i) ∧ zs.Nodup ∧ (∀ z ∈ zs, 0 ≤ z ∧ z < total dn) ∧ zs.length ≤ i ∧ S' = S2.set n b' ++ [.lst (zs.map fun z => encSt (f, z))] ∧ ρ = [some (.loc n), some (encR dn), some (.str wd), some (.int mo), some (.fl (qs.map D.int)), some (.int (total dn)), u6, u7, u8, some (.loc L), u10] := ⟨_, fun _ _ _ => Iff.rfl⟩
  obtain ⟨P2, hP2⟩ : ∃ P : Env → Sto → Prop, ∀ ρ S', P ρ S' ↔ ∃ (b' z : SO) (zs : List Int) (u8 u10 : Option D), BagOk b' (c + 30) ∧ zs.Nodup ∧ (∀ z ∈ zs, 0 ≤ z ∧ z < total dn) ∧ (zs.length : Int) ≤ mo ∧ S' = S2.set n b' ++ [z] ∧ ρ = [some (.loc n), some (encR dn), some (.str wd), some (.int mo), some (.fl (qs.map D.int)), some (.int (total dn)), u6, u7, u8, some (.fl (zs.map fun z => encSt (f, z))), u10] := ⟨_, fun _ _ => Iff.rfl⟩
  refine s_seq P2 ?_ ?_
  · rw [s_fz]
    simp -implicitDefEqProofs
    refine dr (g1 _ _) hb6 (by omega) (by omega) (by omega) fun m b7 q0 q1 hb7 => ?_
    rw [u1]
    simp -implicitDefEqProofs
    refine ⟨small62_of (by omega) (by omega), ?_⟩
    refine ws_range J ?_ ?_ ((hJ _ _ _).mpr ⟨b7, [], _, _, hb7.le (by omega), List.nodup_nil, (fun _ h => nomatch h), Nat.le_refl _, rfl, rfl⟩)
    · intro i ρ S1 hi hz
      obtain ⟨b8, zs, u8, u10, hb8, nd, rg, zl, rfl, rfl⟩ := (hJ _ _ _).mp hz
      clear hz
      have ql2 : (qs.map D.int).length ≤ sizeLine := by rw [List.length_map]; unfold sizeLine; omega
      have ln : ∀ S, lenD (.fl (qs.map D.int)) S = some qs.length := fun S => by
        show some (qs.map D.int).length = _
        rw [List.length_map]
      have i9 : (i : Int) ≤ 9 := by omega
      simp only [List.set_cons_succ, List.set_cons_zero]
      obtain ⟨w8, hw8⟩ : ∃ w : Option D, w = some (.int (0 + (i : Nat))) := ⟨_, rfl⟩
      rw [← hw8]
      clear hw8
      obtain ⟨P3, hP3⟩ : ∃ P : Env → Sto → Prop, ∀ ρ S', P ρ S' ↔ ∃ (b' : SO) (z : Int), BagOk b' (c + 6 + i + 1) ∧ 0 ≤ z ∧ z < total dn ∧ S' = S2.set n b' ++ [.lst (zs.map fun z => encSt (f, z))] ∧ ρ = [some (.loc n), some (encR dn), some (.str wd), some (.int mo), some (.fl (qs.map D.int)), some (.int (total dn)), u6, u7, w8, some (.loc L), some (.int z)] := ⟨_, fun _ _ => Iff.rfl⟩
      refine s_seq P3 ?_ ?_
      · simp -implicitDefEqProofs [ln]
        have qpos := List.length_pos_iff.mpr qn
        refine dr (g1 _ _) hb8 (by omega) (by omega) (by omega) fun q b9 r0 r1 hb9 => ?_
        rw [u1]
        obtain ⟨o, rfl⟩ := Int.eq_ofNat_of_zero_le r0
        have ho : o < qs.length := by omega
        have at_o : atI (qs.map D.int) (o : Nat) = some (.int qs[o]) := atI_nat (by rw [List.getElem?_map, List.getElem?_eq_getElem ho]; rfl)
        simp -implicitDefEqProofs [at_o]
        have := hq qs[o] (List.getElem_mem ho)
        exact (hP3 _ _).mpr ⟨b9, qs[o], hb9, this.1, this.2, rfl, rfl⟩
      intro ρ S1 hz
      obtain ⟨b9, z, hb9, z0, z1, rfl, rfl⟩ := (hP3 _ _).mp hz
      clear hz hP3 P3
      have nin : ∀ S, S[L]? = some (.lst (zs.map fun z => encSt (f, z))) → cmpD .NotIn (.tup [.str wd, .int z]) (.loc L) S = some (!decide (z ∈ zs)) := fun S hS => by
        have h1 : inD (.tup [.str wd, .int z]) (.loc L) S = some (decide (z ∈ zs)) := by
          refine in_loc (n := 2) (m := 2) hS (by simp [cl, wok]) (fun d hd => ?_) (by decide) (by decide) ?_
          · obtain ⟨y, _, rfl⟩ := List.mem_map.mp hd
            rw [en]
            simp [cl, wok]
          · rw [decide_eq_true_iff]
            constructor
            · exact fun h => List.mem_map.mpr ⟨z, h, en z⟩
            · intro h
              obtain ⟨y, hy, e⟩ := List.mem_map.mp h
              rw [en] at e
              injection e with e
              have e3 := (List.cons_eq_cons.mp (List.cons_eq_cons.mp e).2).1
              injection e3 with e3
              rw [← e3]
              exact hy
        show (inD _ _ _).map (!·) = _
        rw [h1]
        rfl
      by_cases cz : z ∈ zs
      · simp -implicitDefEqProofs [nin _ (gL _ _), cz]
        exact (hJ _ _ _).mpr ⟨b9, zs, _, _, hb9.le (by push_cast; omega), nd, rg, by omega, rfl, rfl⟩
      · simp -implicitDefEqProofs [nin _ (gL _ _), cz, isLst_at (gL _ _), mt_append (gL _ _)]
        refine ⟨by unfold sizeLine; omega, ?_⟩
        rw [uL]
        refine (hJ _ _ _).mpr ⟨b9, zs ++ [z], _, _, hb9.le (by push_cast; omega), ?_, fun y hy => ?_, by simp; omega, by simp [en], rfl⟩
        · rw [List.nodup_append]
          exact ⟨nd, by simp, fun a ha b hb e => cz (by rw [List.mem_singleton.mp hb] at e; rwa [← e])⟩
        · rcases List.mem_append.mp hy with hy | hy
          · exact rg y hy
          · rw [List.mem_singleton.mp hy]
            exact ⟨z0, z1⟩
    · intro ρ S1 hz
      obtain ⟨b8, zs, u8, u10, hb8, nd, rg, zl, rfl, rfl⟩ := (hJ _ _ _).mp hz
      show Ws (fzE 9 _ _ _) _
      rw [fz_old (m := L) rfl (gL _ _) (by simp [hL])]
      rw [uL]
      exact (hP2 _ _).mpr ⟨b8, _, zs, _, _, hb8.le (by omega), nd, rg, by omega, rfl, rfl⟩
  intro ρ S1 hz
  obtain ⟨b8, z, zs, u8, u10, hb8, nd, rg, zl, rfl, rfl⟩ := (hP2 _ _).mp hz
  simp -implicitDefEqProofs
  have lt2 : zs.all ((fun d => D.lt S2.length d) ∘ fun z => encSt (f, z)) = true := List.all_eq_true.mpr fun z _ => by
    show D.lt S2.length (encSt (f, z)) = true
    rw [en]
    simp
  rw [lt2, cut_set_app hb8.ltS]
  exact hQ zs b8 nd rg zl hb8
end
end CC
namespace CC
open PySem PySem.Spec PyProof.Rows L2
section
variable {k : Nat} {v : D} {S : Sto} {Q : D → Sto → Prop} {E : Nat → List D → Sto → Prop}
theorem mt_popAt {ds : List D} {i : Nat} {d : D} (h : ds[i]? = some d) (hz : i < 2 ^ 40) : mtL .popAt ds [.int (i : Nat)] S = some (d, ds.eraseIdx i) := by
  have hi : i < ds.length := (List.getElem?_eq_some_iff.mp h).1
  have c : (decide (-(2 ^ 63) ≤ (i : Int)) && decide ((i : Int) < 2 ^ 63)) = true := by
    simp only [Bool.and_eq_true, decide_eq_true_eq]
    omega
  unfold mtL
  simp only [c, if_true]
  rw [seqIndex_of (by omega) (by omega)]
  simp [h]
theorem erase_perm {α : Type} : ∀ {l : List α} {j : Nat} (h : j < l.length), (l[j] :: l.eraseIdx j).Perm l
  | [], _, h => absurd h (Nat.not_lt_zero _)
  | _ :: _, 0, _ => List.Perm.refl _
  | x :: l, j + 1, h => (List.Perm.swap x (l[j]'(Nat.lt_of_succ_lt_succ h)) _).trans ((erase_perm (Nat.lt_of_succ_lt_succ h)).cons x)
def PopS (elt : Sto → R D) (n q : Nat) : Prop := ∀ {S2 : Sto} {rest : List D} {b' : SO} {c' : Int} {Q' : D → Sto → Prop} {E' : Nat → List D → Sto → Prop}, S2[n]? = some b' → S2[q]? = some (.lst rest) → BagOk b' c' → c' < 2 ^ 58 → rest ≠ [] → rest.length ≤ 300 →
  (∀ d rest2 b2, (d :: rest2).Perm rest → BagOk b2 (c' + 1) → Q' d ((S2.set n b2).set q (.lst rest2))) → WR (elt S2) Q' E'
theorem w_shuf {Q : List D → Sto → Prop} {n q m : Nat} {b : SO} {c : Int} {ds : List D} {tg : Xp} {ρ : Env} {C : CallSem} {elt : Env → Sto → R D} (hnq : n ≠ q) (h : S[n]? = some b) (hq : S[q]? = some (.lst ds)) (hb : BagOk b c) (hc : c < 2 ^ 57) (hl : ds.length ≤ 300) (hm : m = ds.length)
    (pv : ∀ d, optP (bindT tg d ρ) fun ρ1 => PopS (elt ρ1) n q)
    (hQ : ∀ es b', es.Perm ds → BagOk b' (c + 300) → Q es ((S.set n b').set q (.lst []))) : WR (lcl (.ds (rangeD 0 m)) tg (fun ρ1 S2 => asT (ev C G (.bl true) ρ1 S2)) elt ρ (Src.size (.ds (rangeD 0 m)) S + 1) 0 [] S) Q E := by
  subst hm
  have hn := old_lt h
  have hql := old_lt hq
  have s0 : (S.set n b).set q (.lst ds) = S := by
    have e1 : S.set n b = S := by
      obtain ⟨hlt, e⟩ := List.getElem?_eq_some_iff.mp h
      rw [← e]
      exact List.set_getElem_self hlt
    rw [e1]
    obtain ⟨hlt, e⟩ := List.getElem?_eq_some_iff.mp hq
    rw [← e]
    exact List.set_getElem_self hlt
  obtain ⟨L, hL⟩ : ∃ L : Nat → List D → Sto → Prop, ∀ i acc S3, L i acc S3 ↔ ∃ (b : SO) (rest : List D), BagOk b (c + i) ∧ (acc ++ rest).Perm ds ∧ acc.length = i ∧ S3 = (S.set n b).set q (.lst rest) := ⟨_, fun _ _ _ => Iff.rfl⟩
  have gn : ∀ b' y, ((S.set n b').set q y)[n]? = some b' := fun b' y => by rw [List.getElem?_set_ne hnq.symm]; exact set_get h
  have gq : ∀ b' y, ((S.set n b').set q y)[q]? = some y := fun b' y => by rw [List.getElem?_set_self (by simpa using hql)]
  refine wp_lcl ds.length L ?_ ?_ _ 0 [] _ (Nat.zero_le _) (by show ds.length < 0 + ((rangeD 0 ds.length).length + 1); rw [rangeD_len]; omega) ((hL _ _ _).mpr ⟨b, ds, hb.le (by omega), List.Perm.refl _, rfl, s0.symm⟩)
  · intro i acc S3 hi hz
    obtain ⟨b6, rest, hb6, pm, al, rfl⟩ := (hL _ _ _).mp hz
    have pl := pm.length_eq
    rw [List.length_append] at pl
    have p1 := pv (.int (0 + (i : Nat)))
    cases hbd : bindT tg (.int (0 + (i : Nat))) ρ with
    | none => rw [hbd] at p1; exact p1.elim
    | some ρ1 =>
      rw [hbd] at p1
      refine ⟨.int (0 + (i : Nat)), ρ1, by show some ((rangeD 0 ds.length)[i]?) = _; rw [rd_get hi], hbd, ?_⟩
      simp
      refine p1 (gn _ _) (gq _ _) hb6 (by omega) (fun e => by rw [e] at pl; simp at pl; omega) (by omega) fun d rest2 b7 hp hb7 => ?_
      refine ⟨by unfold sizeLine; omega, (hL _ _ _).mpr ⟨b7, rest2, hb7.le (by push_cast; omega), ?_, by simp [al], ?_⟩⟩
      · rw [List.append_assoc]
        exact (hp.append_left acc).trans pm
      · rw [List.set_comm _ _ hnq.symm, List.set_set, List.set_set]
  · intro acc S3 hz
    obtain ⟨b6, rest, hb6, pm, al, rfl⟩ := (hL _ _ _).mp hz
    have pl := pm.length_eq
    rw [List.length_append] at pl
    have r0 : rest = [] := List.eq_nil_of_length_eq_zero (by omega)
    subst r0
    rw [List.append_nil] at pm
    exact ⟨by show some ((rangeD 0 ds.length)[ds.length]?) = _; rw [List.getElem?_eq_none (by rw [rangeD_len]; exact Nat.le_refl _)], hQ acc b6 pm (hb6.le (by omega))⟩
end
end CC
namespace CC
open PySem PySem.Spec PyProof.Rows L2
section
variable {k : Nat} {v : D} {S : Sto} {Q : D → Sto → Prop} {E : Nat → List D → Sto → Prop}
theorem e_rev_live {a b : Runs} {q : Nat} {l : List (Bool × Int)} (t : Big a b) (hq : S[q]? = some (.lst (l.map encSt))) (hn : l.Nodup) (hl : l.length < 300) (hi : ∀ s ∈ l, stIn a b s) : WR (CF (k + 6) f_reversed_city [encC a b, .loc q] S) Q E = Q (encC (rvA l a) (rvB l b)) S := by
  refine WR_eq fun {Q E} h => ?_
  have hx : lstD S (.loc q) = some (l.map encSt) := lst_at hq
  have hx2 : lstAt S q = some (l.map encSt) := lst_at hq
  have dx : dicAt S q = none := by unfold dicAt; rw [hq]
  have nx : dnAt S q = none := by unfold dnAt; rw [hq]
  have ty : tyOfD (.loc q) S = some "list" := by
    show (match S[q]? with
      | some (.lst _) => some "list"
      | some (.dic _) => some "dict"
      | _ => none) = _
    rw [hq]
  have tl : isinst (.loc q) (.ty "list") S = some true := by
    rw [isi_list (by rw [ty]; rfl), isLB_of (by rw [lstM_at hq]; rfl)]
  rw [cf_run (fd := fd_reversed_city) rfl rfl]
  simp [fd_reversed_city, bd_reversed_city, startE, ↓e_check_town t.t, tl, hx2, dx, nx]
  have w : Walk (.lst q) S (l.map encSt) := walk_lst hx2
  refine lcS_m (m := l) (enc := encSt) w (fun s => .bl true) (by unfold sizeLine; omega) (fun s hs => ?_) ?_
  · simp [e_is_street_ok t.t.la t.t.lb (hi s hs)]
  have hb : blsOf (l.map fun _ => D.bl true) = some (l.map fun _ => true) := blsOf_map (f := fun _ => true) l
  have lt : ∀ j, ltL j (l.map fun _ => D.bl true) = true := fun j => ltL_map' fun _ => by simp
  have hs := lset_st hn hl
  have he : ∀ {Q E}, WR (CF (k + 5) f_turned_city [encC a b, .loc q] S) Q E = Q (encC (rvA l a) (rvB l b)) S := fun {Q E} => e_turned_city (k := k + 2) t hx hn (by omega)
  rw [fr_new (lt _)]
  simp [hb, hs, hx2, dx, nx, lenL]
  show WR (CF (k + 5) f_turned_city [encC a b, .loc q] S) _ _
  rw [he]
  simp
  exact h
end
end CC
namespace CC
open PySem PySem.Spec PyProof.Rows L2
theorem turn_twice {A B : Str} {l : Runs} {ns : List Int} (o : okR A B l = true) (ha : Asc ns) (hA : opp A = B) (hB : opp B = A) : turnR (turnR l ns) ns = l := by
  have t1 := turn_ok o ha hA hB
  have t2 := turn_ok t1.ok ha hA hB
  refine runs_eq (ok_pos t2.ok) (ok_pos o) (ok_asc t2.ok) (ok_asc o) (by rw [t2.tot, t1.tot]) fun z z0 z1 => ?_
  rw [t2.tot] at z1
  rw [t2.sgn z z0 z1]
  rw [t1.tot] at z1
  unfold flipAt
  rw [t1.sgn z z0 z1]
  unfold flipAt
  split
  · rcases sign_or o z0 z1 with e | e <;> rw [e]
    · rw [hA, hB]
    · rw [hB, hA]
  · rfl
theorem asc_sameI : ∀ {l m : List Int}, Asc l → Asc m → (∀ x, x ∈ l ↔ x ∈ m) → l = m
  | [], [], _, _, _ => rfl
  | [], y :: m, _, _, h => nomatch (h y).mpr List.mem_cons_self
  | x :: l, [], _, _, h => nomatch (h x).mp List.mem_cons_self
  | x :: l, y :: m, a, b, h => by
    have a1 := List.pairwise_cons.mp a
    have b1 := List.pairwise_cons.mp b
    have e : x = y := by
      rcases List.mem_cons.mp ((h x).mp List.mem_cons_self) with e | hx
      · exact e
      · rcases List.mem_cons.mp ((h y).mpr List.mem_cons_self) with e | hy
        · exact e.symm
        · have := a1.1 y hy
          have := b1.1 x hx
          omega
    subst e
    have := asc_sameI (l := l) (m := m) a1.2 b1.2 fun z => by
      constructor
      · intro hz
        rcases List.mem_cons.mp ((h z).mp (List.mem_cons_of_mem _ hz)) with e | h2
        · have := a1.1 z hz
          omega
        · exact h2
      · intro hz
        rcases List.mem_cons.mp ((h z).mpr (List.mem_cons_of_mem _ hz)) with e | h2
        · have := b1.1 z hz
          omega
        · exact h2
    rw [this]
theorem nums_same {f : Bool} {l m : List (Bool × Int)} (hl : l.Nodup) (hm : m.Nodup) (h : ∀ s, s ∈ m ↔ s ∈ l) : isort (numsOf f m) = isort (numsOf f l) := by
  refine asc_sameI (isort_asc' (nums_nodup hm)) (isort_asc' (nums_nodup hl)) fun x => ?_
  rw [(isort_perm').mem_iff, (isort_perm').mem_iff, nums_mem, nums_mem]
  exact h _
theorem rv_back {a b : Runs} {l m : List (Bool × Int)} (t : Town a b) (hl : l.Nodup) (hm : m.Nodup) (h : ∀ s, s ∈ m ↔ s ∈ l) : rvA m (rvA l a) = a ∧ rvB m (rvB l b) = b := by
  unfold rvA rvB
  rw [nums_same hl hm h, nums_same hl hm h]
  exact ⟨turn_twice t.oa (isort_asc' (nums_nodup hl)) (by decide) (by decide), turn_twice t.ob (isort_asc' (nums_nodup hl)) (by decide) (by decide)⟩
end CC
namespace CC
open PySem PySem.Spec PyProof.Rows L2
theorem setSl_at {n m j : Nat} {ds es : List D} (h : S[n]? = some (.lst ds)) (g : S[m]? = some (.lst es)) (ne : n ≠ m) (hz : ds.length + es.length ≤ sizeLine) : setSl (.loc n) (some (j : Nat)) none (.loc m) S = some (S.set n (.lst (ds.take j ++ es))) := by
  show (match S[n]?, S[m]? with
    | some (.lst ds), some (.lst es) => if n ≠ m ∧ ds.length + es.length ≤ sizeLine then some (S.set n (.lst (putSl ds es (some (j : Nat)) none))) else none
    | _, _ => none) = _
  rw [h, g]
  show (if n ≠ m ∧ ds.length + es.length ≤ sizeLine then some (S.set n (.lst (putSl ds es (some (j : Nat)) none))) else none) = _
  rw [if_pos ⟨ne, hz⟩]
  unfold putSl
  rw [HT.sIx_nat, HT.sIx_none, Nat.max_eq_right (Nat.min_le_right _ _), List.drop_length, List.append_nil]
  congr 4
  rw [List.take_eq_take_iff]
  omega
def two (xs ys : List Int) : List (Bool × Int) := xs.map (fun z => (false, z)) ++ ys.map fun z => (true, z)
theorem two_ok {a b : Runs} {xs ys : List Int} (nx : xs.Nodup) (ny : ys.Nodup) (hx : ∀ z ∈ xs, 0 ≤ z ∧ z < total a) (hy : ∀ z ∈ ys, 0 ≤ z ∧ z < total b) : (two xs ys).Nodup ∧ ∀ s ∈ two xs ys, stIn a b s := by
  constructor
  · unfold two
    rw [List.nodup_append]
    refine ⟨List.Pairwise.map _ (fun x y h e => h (congrArg Prod.snd e)) nx, List.Pairwise.map _ (fun x y h e => h (congrArg Prod.snd e)) ny, fun s hs t ht e => ?_⟩
    obtain ⟨x, _, rfl⟩ := List.mem_map.mp hs
    obtain ⟨y, _, rfl⟩ := List.mem_map.mp ht
    cases e
  · intro s hs
    rcases List.mem_append.mp hs with hs | hs
    · obtain ⟨z, hz, rfl⟩ := List.mem_map.mp hs
      exact hx z hz
    · obtain ⟨z, hz, rfl⟩ := List.mem_map.mp hs
      exact hy z hz
theorem two_enc {xs ys : List Int} : (xs.map fun z => encSt (false, z)) ++ (ys.map fun z => encSt (true, z)) = (two xs ys).map encSt := by
  unfold two
  rw [List.map_append, List.map_map, List.map_map]
  rfl
def decS : D → Bool × Int
  | .tup [.str w, .int z] => (decide (w = "column"), z)
  | _ => (false, 0)
theorem dec_enc {s : Bool × Int} : decS (encSt s) = s := by
  obtain ⟨f, z⟩ := s
  cases f
  · show (decide (("row" : Str) = "column"), z) = _
    have : (("row" : Str) = "column") = False := by simp
    rw [decide_eq_false (by rw [this]; exact id)]
  · show (decide (("column" : Str) = "column"), z) = _
    rw [decide_eq_true rfl]
theorem perm_enc {es : List D} {st : List (Bool × Int)} (h : es.Perm (st.map encSt)) : ∃ st2 : List (Bool × Int), st2.Perm st ∧ es = st2.map encSt := by
  refine ⟨es.map decS, ?_, ?_⟩
  · have h1 := h.map decS
    have h2 : (st.map encSt).map decS = st := by
      rw [List.map_map]
      exact (List.map_congr_left fun s _ => dec_enc).trans (List.map_id st)
    rw [h2] at h1
    exact h1
  · rw [List.map_map]
    refine Eq.trans (List.map_id es).symm (List.map_congr_left fun d hd => ?_)
    obtain ⟨s, _, rfl⟩ := List.mem_map.mp (h.mem_iff.mp hd)
    show encSt s = encSt (decS (encSt s))
    rw [dec_enc]
theorem bnd_total {l : Runs} (hl : l.length ≤ 20) (hB : BndR (10 ^ 30) l) : total l < 2 ^ 150 := by
  have h : ∀ m : Runs, BndR (10 ^ 30) m → total m ≤ 10 ^ 30 * m.length := by
    intro m
    induction m with
    | nil => intro _; exact Int.le_refl _
    | cons p m ih =>
      intro hm
      have h1 := (hm p List.mem_cons_self).2
      have h2 := ih fun q hq => hm q (List.mem_cons_of_mem _ hq)
      rw [total_cons, List.length_cons]
      generalize (10 : Int) ^ 30 = z at *
      have e : z * ((m.length + 1 : Nat) : Int) = z * m.length + z := by rw [Int.natCast_add, Int.mul_add]; simp
      rw [e]
      omega
  have h1 := h l hB
  have h2 : (10 : Int) ^ 30 * l.length ≤ 10 ^ 30 * 20 := Int.mul_le_mul_of_nonneg_left (by omega) (by decide +kernel)
  have h3 : (10 : Int) ^ 30 * 20 < 2 ^ 150 := by decide +kernel
  exact Int.lt_of_le_of_lt (Int.le_trans h1 h2) h3
theorem cl_pts {A B : Str} (hA : PyData.strOk A = true) (hB : PyData.strOk B = true) {l : Runs} (o : okR A B l = true) : cl 2 (encR l) = true := by
  show (l.map encP).all (cl 1) = true
  rw [List.all_eq_true]
  intro d hd
  obtain ⟨p, hp, rfl⟩ := List.mem_map.mp hd
  have : PyData.strOk p.1 = true := by rcases (okR_mem o hp).1 with e | e <;> rw [e] <;> assumption
  show ([D.str p.1, .int p.2].all (cl 0)) = true
  simp only [List.all_cons, List.all_nil, Bool.and_true, Bool.and_eq_true]
  exact ⟨this, rfl⟩
theorem cl_city {a b : Runs} (t : Big a b) : cl 3 (encC a b) = true := by
  show ([encR a, encR b].all (cl 2)) = true
  simp only [List.all_cons, List.all_nil, Bool.and_true, Bool.and_eq_true]
  exact ⟨cl_pts (by decide +kernel) (by decide +kernel) t.t.oa, cl_pts (by decide +kernel) (by decide +kernel) t.t.ob⟩
theorem ne_town {a b : Runs} (t : Big a b) (S : Sto) : cmpD .NotEq (encC a b) (encC a b) S = some false := ne_cl (n := 3) (m := 3) (cl_city t) (cl_city t) (by omega) (by omega) (by simp)
theorem Rw_st {P : Sto → Prop} {s : Bool × Int} (h0 : 0 ≤ s.2) (h1 : s.2 < 2 ^ 150) : Rw P 2 2000 (encSt s) := by
  refine Rw_tup (n := 1) (w := 900) (fun d hd => ?_) (by show 2 * (900 + 2) + 3 ≤ 2000; omega)
  simp only [List.mem_cons, List.not_mem_nil, or_false] at hd
  rcases hd with rfl | rfl
  · obtain ⟨f, z⟩ := s
    cases f
    · exact Rw_str (show (reprText "row").length ≤ 900 by decide +kernel)
    · exact Rw_str (show (reprText "column").length ≤ 900 by decide +kernel)
  · have hz : s.2.natAbs < 2 ^ 150 := by omega
    have hl : s.2.natAbs.log2 < 150 := by
      by_cases e : s.2.natAbs = 0
      · rw [e]; decide
      · exact (Nat.log2_lt e).mpr hz
    exact Rw_int (by omega) (by omega)
theorem rep_pair {x y : Runs} {q : Nat} {st : List (Bool × Int)} (t : TownB x y) (hs : ∀ s ∈ st, stIn x y s) (hl : st.length ≤ 9) : ∃ r : Str, ∀ S, S[q]? = some (.lst (st.map encSt)) → repD (.fl [encC x y, .loc q]) S = some (.str r) := by
  have bx := bnd_total t.la t.ba
  have by_ := bnd_total t.lb t.bb
  refine Rw.rep (P := fun S => S[q]? = some (.lst (st.map encSt))) (n := 5) (w := 200000) (Rw_fl (n := 4) (w := 90000) (fun d hd => ?_) (by show 2 * (90000 + 2) + 3 ≤ _; omega)) (by decide) (by unfold sizeLine; decide)
  simp only [List.mem_cons, List.not_mem_nil, or_false] at hd
  rcases hd with rfl | rfl
  · exact (Rw_town t).le (by decide) (by decide)
  · refine (Rw_loc (n := 2) (w := 2000) (x := 20000) (ds := st.map encSt) (fun S hS => lst_at hS) (fun d hd => ?_) (by rw [List.length_map]; omega)).le (by decide) (by decide)
    obtain ⟨s, hs2, rfl⟩ := List.mem_map.mp hd
    obtain ⟨h0, h1⟩ := hs s hs2
    refine Rw_st h0 (Int.lt_trans h1 ?_)
    split <;> assumption
section
variable {k : Nat} {v : D} {S : Sto} {Q : D → Sto → Prop} {E : Nat → List D → Sto → Prop}
theorem w_right {n : Nat} {b : SO} {c : Int} {x y : Runs} (t : TownB x y) (h : S[n]? = some b) (hb : BagOk b c) (hc : c < 2 ^ 56) (hQ : ∀ b', BagOk b' (c + 400) → Q (.bl true) (S.set n b')) : WR (CF (k + 7) f__law_right [.loc n, encC x y] S) Q E := by
  have hn := old_lt h
  have dr : ∀ {j c : Int} {b : SO} {S : Sto} {Q E}, S[n]? = some b → BagOk b c → c < 2 ^ 60 → 0 < j → j < 2 ^ 200 → (∀ r b', 0 ≤ r → r < j → BagOk b' (c + 1) → Q (.int r) (S.set n b')) → WR (CF (k + 6) f__law_draw [.loc n, .int j] S) Q E := fun h1 h2 h3 h4 h5 h6 => w_draw (k := k + 5) h1 h2 h3 h4 h5 h6
  have sx : ∀ {b : SO} {c : Int} {S : Sto} {Q E}, S[n]? = some b → BagOk b c → c < 2 ^ 58 → (∀ (zs : List Int) b', zs.Nodup → (∀ z ∈ zs, 0 ≤ z ∧ z < total x) → (zs.length : Int) ≤ 5 → BagOk b' (c + 30) → Q (.fl (zs.map fun z => encSt (false, z))) (S.set n b')) → WR (CF (k + 6) f__law_some [.loc n, encR x, .str "row", .int 5] S) Q E := fun h1 h2 h3 h4 => w_some (k := k + 4) (f := false) (ok_pos t.oa) (total_pos t.oa) (bnd_total t.la t.ba) (by have := t.la; omega) (by decide) (by decide) h1 h2 (by omega) h4
  have sy : ∀ {b : SO} {c : Int} {S : Sto} {Q E}, S[n]? = some b → BagOk b c → c < 2 ^ 58 → (∀ (zs : List Int) b', zs.Nodup → (∀ z ∈ zs, 0 ≤ z ∧ z < total y) → (zs.length : Int) ≤ 4 → BagOk b' (c + 30) → Q (.fl (zs.map fun z => encSt (true, z))) (S.set n b')) → WR (CF (k + 6) f__law_some [.loc n, encR y, .str "column", .int 4] S) Q E := fun h1 h2 h3 h4 => w_some (k := k + 4) (f := true) (ok_pos t.ob) (total_pos t.ob) (bnd_total t.lb t.bb) (by have := t.lb; omega) (by decide) (by decide) h1 h2 (by omega) h4
  have ic : ∀ {a b : Runs} {S : Sto} {Q E}, Big a b → Q (.bl true) S → WR (CF (k + 6) f_is_city [encC a b] S) Q E := fun {a b S Q E} tb hq => by
    rw [e_is_city (k := k + 2) tb.t.nice, tb.t.city]
    exact hq
  have rb : ∀ {st : List (Bool × Int)} {S : Sto} {Q E}, st.Nodup → (∀ s ∈ st, stIn x y s) → st.length ≤ 9 → Q (encC x y) S → WR (CF (k + 6) f_reversed_city [encC (rvA st x) (rvB st y), .fl (st.reverse.map encSt)] S) Q E := fun {st S Q E} h1 h2 h3 hq => by
    have bg := turned_big t.big h1 (by have := t.la; omega) (by have := t.lb; omega)
    have bk := rv_back t.town h1 (m := st.reverse) ((List.reverse_perm st).nodup_iff.mpr h1) fun s => List.mem_reverse
    rw [e_reversed_okG (k := k) bg.1 ((List.reverse_perm st).nodup_iff.mpr h1) (by rw [List.length_reverse]; omega) (fun s hs => ?_), bk.1, bk.2]
    · exact hq
    · have := h2 s (List.mem_reverse.mp hs)
      unfold stIn at this ⊢
      rw [show total (if s.1 = true then rvB st y else rvA st x) = total (if s.1 = true then y else x) by split; exact bg.2.2.tot; exact bg.2.1.tot]
      exact this
  have du : ∀ {st : List (Bool × Int)} {S : Sto} {Q E}, st.Nodup → (∀ s ∈ st, stIn x y s) → st.length ≤ 9 → Q (encR (rvA st x)) S → WR (CF (k + 6) f__law_turned [encR x, .fl ((numsOf false st).map D.int)] S) Q E := fun {st S Q E} h1 h2 h3 hq =>
    w_due (k := k + 4) t.oa (by decide) (by decide) (by simp [letter]) (by simp [letter]) (by have := t.la; omega) (by have := nums_len (f := false) (l := st); omega) (fun m hm => h2 (false, m) (nums_mem.mp hm)) (isort_asc' (nums_nodup h1)) (fun m => (isort_perm').mem_iff) hq
  have dv : ∀ {st : List (Bool × Int)} {S : Sto} {Q E}, st.Nodup → (∀ s ∈ st, stIn x y s) → st.length ≤ 9 → Q (encR (rvB st y)) S → WR (CF (k + 6) f__law_turned [encR y, .fl ((numsOf true st).map D.int)] S) Q E := fun {st S Q E} h1 h2 h3 hq =>
    w_due (k := k + 4) t.ob (by decide) (by decide) (by simp [letter]) (by simp [letter]) (by have := t.lb; omega) (by have := nums_len (f := true) (l := st); omega) (fun m hm => h2 (true, m) (nums_mem.mp hm)) (isort_asc' (nums_nodup h1)) (fun m => (isort_perm').mem_iff) hq
  have rl : ∀ {st : List (Bool × Int)} {q : Nat} {S : Sto} {Q E}, S[q]? = some (.lst (st.map encSt)) → st.Nodup → (∀ s ∈ st, stIn x y s) → st.length ≤ 9 → Q (encC (rvA st x) (rvB st y)) S → WR (CF (k + 6) f_reversed_city [encC x y, .loc q] S) Q E := fun {st q S Q E} h0 h1 h2 h3 hq => by
    rw [e_rev_live (k := k) t.big h0 h1 (by omega) h2]
    exact hq
  rw [cf_run (fd := fd__law_right) rfl rfl]
  show Ws (run W (CF (k + 6)) G bd__law_right [some (.loc n), some (encC x y), none, none, none, none, none, none, none, none, none, none] S) _
  unfold bd__law_right
  generalize CF (k + 6) = C at *
  have ix0 : ∀ S, ixD (encC x y) (.int 0) S = some (encR x) := fun _ => rfl
  have ix1 : ∀ S, ixD (encC x y) (.int 1) S = some (encR y) := fun _ => rfl
  obtain ⟨P1, hP1⟩ : ∃ P : Env → Sto → Prop, ∀ ρ S', P ρ S' ↔ ∃ (b' : SO) (st : List (Bool × Int)), BagOk b' (c + 60) ∧ st.Nodup ∧ (∀ s ∈ st, stIn x y s) ∧ st.length ≤ 9 ∧ S' = S.set n b' ++ [.lst (st.map encSt)] ∧ ρ = [some (.loc n), some (encC x y), some (.loc S.length), none, none, none, none, none, none, none, none, none] := ⟨_, fun _ _ => Iff.rfl⟩
  refine s_seq P1 ?_ ?_
  · simp -implicitDefEqProofs [ix0, ix1]
    refine sx h hb (by omega) fun xs b1 n1 r1 l1 hb1 => ?_
    refine sy (set_get h) hb1 (by omega) fun ys b2 n2 r2 l2 hb2 => ?_
    rw [List.set_set]
    simp -implicitDefEqProofs
    refine ⟨by unfold sizeLine; omega, ?_⟩
    have tw := two_ok n1 n2 r1 r2
    rw [two_enc]
    exact (hP1 _ _).mpr ⟨b2, two xs ys, hb2.le (by omega), tw.1, tw.2, by unfold two; simp; omega, rfl, rfl⟩
  intro ρ S1 hz
  obtain ⟨b1, st, hb1, nd, si, sl, rfl, rfl⟩ := (hP1 _ _).mp hz
  clear hz hP1 P1 sx sy
  have gn : ∀ b' J, (S.set n b' ++ J)[n]? = some b' := fun b' J => by rw [List.getElem?_append_left (by simpa using hn)]; exact set_get h
  have un : ∀ b' b'' J, (S.set n b' ++ J).set n b'' = S.set n b'' ++ J := fun b' b'' J => by rw [List.set_append_left _ _ (by simpa using hn), List.set_set]
  have gq : ∀ b' y, (S.set n b' ++ [y])[S.length]? = some y := fun b' y => by rw [List.getElem?_append_right (by simp)]; simp
  have uq : ∀ b' y y', (S.set n b' ++ [y]).set S.length y' = S.set n b' ++ [y'] := fun b' y y' => by rw [List.set_append_right _ _ (by simp)]; simp
  obtain ⟨P2, hP2⟩ : ∃ P : Env → Sto → Prop, ∀ ρ S', P ρ S' ↔ ∃ (b' : SO) (st : List (Bool × Int)), BagOk b' (c + 360) ∧ st.Nodup ∧ (∀ s ∈ st, stIn x y s) ∧ st.length ≤ 9 ∧ S' = S.set n b' ++ [.lst [], .lst (st.map encSt)] ∧ ρ = [some (.loc n), some (encC x y), some (.loc (S.length + 1)), none, none, none, none, none, none, none, none, none] := ⟨_, fun _ _ => Iff.rfl⟩
  refine s_seq P2 ?_ ?_
  · simp -implicitDefEqProofs [lst_at (gq b1 _)]
    refine ⟨small62_of (by omega) (by omega), ?_⟩
    refine w_shuf (n := n) (q := S.length) (b := b1) (c := c + 60) (ds := st.map encSt) (by omega) (gn _ _) (gq _ _) hb1 (by omega) (by simp; omega) (by simp) (fun d => ?_) fun es b2 pm hb2 => ?_
    · show PopS (fun S2 => ev C G _ [some (.loc n), some (encC x y), some (.loc S.length), none, none, none, none, none, none, some d, none, none] S2) n S.length
      intro S2 rest b' c' Q' E' h1 h2 hb' hc' ne hl hq'
      have rp := List.length_pos_iff.mpr ne
      simp -implicitDefEqProofs [lst_at h2]
      refine ⟨isLst_at h2, ?_⟩
      refine dr h1 hb' (by omega) (by omega) (by omega) fun r b3 r0 r1 hb3 => ?_
      obtain ⟨j, rfl⟩ := Int.eq_ofNat_of_zero_le r0
      have hj : j < rest.length := by omega
      have F : (S2.set n b3)[S.length]? = some (.lst rest) := by rw [List.getElem?_set_ne (by omega)]; exact h2
      rw [mt_any F (mt_popAt (List.getElem?_eq_getElem hj) (by omega))]
      exact hq' rest[j] (rest.eraseIdx j) b3 (erase_perm hj) hb3
    · rw [un, uq]
      obtain ⟨st2, pm2, rfl⟩ := perm_enc pm
      refine (hP2 _ _).mpr ⟨b2, st2, hb2.le (by omega), pm2.nodup_iff.mpr nd, fun s hs => si s (pm2.mem_iff.mp hs), by rw [pm2.length_eq]; exact sl, by rw [List.append_assoc]; rfl, by simp⟩
  intro ρ S1 hz
  obtain ⟨b2, st2, hb2, nd2, si2, sl2, rfl, rfl⟩ := (hP2 _ _).mp hz
  clear hz hP2 P2 nd si sl hb1
  have eS : S.set n b2 ++ [SO.lst [], .lst (st2.map encSt)] = S.set n b2 ++ (.lst [] :: .lst (st2.map encSt) :: []) := rfl
  have gL : ∀ b' st J, (S.set n b' ++ (SO.lst [] :: SO.lst st :: J))[S.length + 1]? = some (.lst st) := fun b' st J => by
    rw [List.getElem?_append_right (by simp)]
    simp
  obtain ⟨I, hI⟩ : ∃ I : Nat → Env → Sto → Prop, ∀ j ρ S', I j ρ S' ↔ ∃ (st : List (Bool × Int)) (J : List SO) (u3 u4 u5 u6 u7 u8 u9 u10 u11 : Option D), st.Nodup ∧ (∀ s ∈ st, stIn x y s) ∧ st.length ≤ 9 ∧ S' = S.set n b2 ++ (.lst [] :: .lst (st.map encSt) :: J) ∧ ρ = [some (.loc n), some (encC x y), some (.loc (S.length + 1)), u3, u4, u5, u6, u7, u8, u9, u10, u11] := ⟨_, fun _ _ _ => Iff.rfl⟩
  refine s_seq (I 2) ?_ ?_
  · simp -implicitDefEqProofs
    refine ⟨by decide +kernel, ?_⟩
    refine ws_range I ?_ (fun ρ S1 hz => hz) ((hI _ _ _).mpr ⟨st2, [], _, _, _, _, _, _, _, _, _, nd2, si2, sl2, rfl, rfl⟩)
    intro j ρ S1 hj hz
    obtain ⟨st, J, u3, u4, u5, u6, u7, u8, u9, u10, u11, nd, si, sl, rfl, rfl⟩ := (hI _ _ _).mp hz
    clear hz
    simp only [List.set_cons_succ, List.set_cons_zero]
    obtain ⟨w3, hw3⟩ : ∃ w : Option D, w = some (.int (0 + (j : Nat))) := ⟨_, rfl⟩
    rw [← hw3]
    clear hw3
    obtain ⟨r, hr⟩ := rep_pair (q := S.length + 1) t si sl
    have g := gL b2 (st.map encSt) J
    generalize hT : S.set n b2 ++ (SO.lst [] :: SO.lst (st.map encSt) :: J) = T at *
    have lT : S.length + 1 < T.length := by rw [← hT]; simp
    refine s_seq (fun ρ S1 => S1 = T ∧ ρ = [some (.loc n), some (encC x y), some (.loc (S.length + 1)), w3, some (.str r), u5, u6, u7, u8, u9, u10, u11]) ?_ ?_
    · simp -implicitDefEqProofs
      have ltp : ltL T.length [encC x y, .loc (S.length + 1)] = true := by
        have h1 : D.lt T.length (encC x y) = true := by simp [encC]
        have h2 : D.lt T.length (.loc (S.length + 1)) = true := by simp; omega
        simp [h1, h2]
      rw [fr_new ltp, hr T g]
      exact ⟨rfl, rfl⟩
    rintro ρ S1 ⟨rfl, rfl⟩
    have lst1 : ∀ J2, lstD (S1 ++ J2) (.loc (S.length + 1)) = some (st.map encSt) := fun J2 => by
      show lstAt _ _ = _
      exact lst_at (by rw [List.getElem?_append_left lT]; exact g)
    have iL : ∀ (m : List Int) j, ltL j (m.map D.int) = true := fun m j => ltL_map' fun _ => by simp
    obtain ⟨P5, hP5⟩ : ∃ P : Env → Sto → Prop, ∀ ρ S', P ρ S' ↔ ∃ J1, S' = S1 ++ J1 ∧ ρ = [some (.loc n), some (encC x y), some (.loc (S.length + 1)), w3, some (.str r), some (.fl ((numsOf false st).map D.int)), u6, u7, u8, u9, u10, u11] := ⟨_, fun _ _ => Iff.rfl⟩
    refine s_seq P5 ?_ ?_
    · rw [s_fz]
      have a1 : lstAt S1 (S.length + 1) = some (st.map encSt) := lst_at g
      simp -implicitDefEqProofs [G, gvs]
      rw [a1]
      refine lcS_fm (m := st) (enc := encSt) (walk_lst a1) (fun s => s.1 == false) (fun s => .int s.2) (by unfold sizeLine; omega) (fun s hs => ?_) ?_
      · obtain ⟨f, z⟩ := s
        cases f <;> simp [encSt]
      have e1 : (st.filter fun s => s.1 == false).map (fun s => D.int s.2) = (numsOf false st).map D.int := by unfold numsOf; rw [List.map_map]; rfl
      rw [e1]
      refine fz_any0 (J := [.lst ((numsOf false st).map D.int)]) (m := S1.length) rfl new_get (Nat.le_refl _) fun G1 => ?_
      exact (hP5 _ _).mpr ⟨G1, rfl, rfl⟩
    intro ρ S2 hz
    obtain ⟨J1, rfl, rfl⟩ := (hP5 _ _).mp hz
    clear hz hP5 P5
    obtain ⟨P6, hP6⟩ : ∃ P : Env → Sto → Prop, ∀ ρ S', P ρ S' ↔ ∃ J1, S' = S1 ++ J1 ∧ ρ = [some (.loc n), some (encC x y), some (.loc (S.length + 1)), w3, some (.str r), some (.fl ((numsOf false st).map D.int)), some (.fl ((numsOf true st).map D.int)), u7, u8, u9, u10, u11] := ⟨_, fun _ _ => Iff.rfl⟩
    refine s_seq P6 ?_ ?_
    · rw [s_fz]
      have a1 : lstAt (S1 ++ J1) (S.length + 1) = some (st.map encSt) := lst1 J1
      simp -implicitDefEqProofs [G, gvs]
      rw [a1]
      refine lcS_fm (m := st) (enc := encSt) (walk_lst a1) (fun s => s.1 == true) (fun s => .int s.2) (by unfold sizeLine; omega) (fun s hs => ?_) ?_
      · obtain ⟨f, z⟩ := s
        cases f <;> simp [encSt]
      have e1 : (st.filter fun s => s.1 == true).map (fun s => D.int s.2) = (numsOf true st).map D.int := by unfold numsOf; rw [List.map_map]; rfl
      rw [e1]
      rw [List.append_assoc]
      refine fz_any (i := 6) (S := S1) (J0 := J1) (J := J1 ++ [.lst ((numsOf true st).map D.int)]) (m := (S1 ++ J1).length) (ds := (numsOf true st).map D.int) ?_ (by rw [← List.append_assoc]; exact new_get) (by simp) fun G1 => ?_
      · rfl
      exact (hP6 _ _).mpr ⟨G1, rfl, rfl⟩
    intro ρ S2 hz
    obtain ⟨J2, rfl, rfl⟩ := (hP6 _ _).mp hz
    clear hz hP6 P6
    have g2 : (S1 ++ J2)[S.length + 1]? = some (.lst (st.map encSt)) := by rw [List.getElem?_append_left lT]; exact g
    obtain ⟨T2, hT2⟩ : ∃ T2, T2 = S1 ++ J2 := ⟨_, rfl⟩
    rw [← hT2] at g2 ⊢
    refine s_seq (fun ρ S' => S' = T2 ∧ ρ = [some (.loc n), some (encC x y), some (.loc (S.length + 1)), w3, some (.str r), some (.fl ((numsOf false st).map D.int)), some (.fl ((numsOf true st).map D.int)), some (encC (rvA st x) (rvB st y)), u8, u9, u10, u11]) ?_ ?_
    · simp -implicitDefEqProofs [ix0, ix1]
      refine du nd si sl ?_
      refine dv nd si sl ?_
      exact ⟨rfl, rfl⟩
    rintro ρ T3 ⟨rfl, rfl⟩
    refine s_seq (fun ρ S' => S' = T3 ∧ ρ = [some (.loc n), some (encC x y), some (.loc (S.length + 1)), w3, some (.str r), some (.fl ((numsOf false st).map D.int)), some (.fl ((numsOf true st).map D.int)), some (encC (rvA st x) (rvB st y)), some (encC (rvA st x) (rvB st y)), u9, u10, u11]) ?_ ?_
    · simp -implicitDefEqProofs
      refine rl g2 nd si sl ?_
      exact ⟨rfl, rfl⟩
    rintro ρ T4 ⟨rfl, rfl⟩
    have bg := turned_big t.big nd (by have := t.la; omega) (by have := t.lb; omega)
    refine s_seq (fun ρ S' => S' = T4 ∧ ρ = [some (.loc n), some (encC x y), some (.loc (S.length + 1)), w3, some (.str r), some (.fl ((numsOf false st).map D.int)), some (.fl ((numsOf true st).map D.int)), some (encC (rvA st x) (rvB st y)), some (encC (rvA st x) (rvB st y)), u9, u10, u11]) ?_ ?_
    · simp -implicitDefEqProofs
      have nee := ne_town bg.1 T4
      rw [nee]
      simp -implicitDefEqProofs
      refine rl g2 nd si sl ?_
      simp -implicitDefEqProofs [nee]
      refine ic bg.1 ?_
      simp -implicitDefEqProofs
    rintro ρ T5 ⟨rfl, rfl⟩
    refine s_seq (fun ρ S' => S' = T5 ∧ ρ = [some (.loc n), some (encC x y), some (.loc (S.length + 1)), w3, some (.str r), some (.fl ((numsOf false st).map D.int)), some (.fl ((numsOf true st).map D.int)), some (encC (rvA st x) (rvB st y)), some (encC (rvA st x) (rvB st y)), u9, u10, u11]) ?_ ?_
    · simp -implicitDefEqProofs [lst_at g2]
      have rv : ∀ Q E, WR (revD (.loc (S.length + 1)) T5) Q E = Q (.loc T5.length) (T5 ++ [.lst (st.map encSt).reverse]) := fun Q E => by
        unfold revD
        simp [lst_at g2]
      rw [rv, ← List.map_reverse, fr_new (ltL_map' fun s => by simp [encSt])]
      refine rb nd si sl ?_
      simp -implicitDefEqProofs [ne_town t.big]
      have ltp : ltL T5.length [encC x y, .loc (S.length + 1)] = true := by
        have h2 : D.lt T5.length (.loc (S.length + 1)) = true := by
          have := old_lt g2
          simp
          omega
        simp [h2]
      rw [fr_new ltp, hr T5 g2]
      simp -implicitDefEqProofs
    rintro ρ T6 ⟨rfl, rfl⟩
    simp -implicitDefEqProofs [lst_at g2]
    have g3 : (T6 ++ [SO.lst []])[S.length + 1]? = some (.lst (st.map encSt)) := by rw [List.getElem?_append_left (old_lt g2)]; exact g2
    rw [lst_at g3]
    have e2 : (((st.map encSt).length : Nat) : Int) / 2 = ((st.length / 2 : Nat) : Int) := by rw [List.length_map]; omega
    have ne6 : S.length + 1 ≠ T6.length := by have := old_lt g2; omega
    have sA := setSl_at (j := st.length / 2) g3 new_get ne6 (by rw [List.length_map]; unfold sizeLine; simp; omega)
    refine ⟨by decide +kernel, ?_⟩
    rw [e2, sA]
    refine (hI _ _ _).mpr ⟨st.take (st.length / 2), J ++ (J2 ++ [.lst []]), _, _, _, _, _, _, _, _, _, nd.sublist (List.take_sublist _ _), fun s hs => si s (List.mem_of_mem_take hs), by rw [List.length_take]; omega, ?_, rfl⟩
    rw [hT2, ← hT, List.append_assoc, List.append_assoc, List.set_append_right _ _ (by simp)]
    simp [List.map_take]
  intro ρ S1 hz
  obtain ⟨st, J, u3, u4, u5, u6, u7, u8, u9, u10, u11, nd, si, sl, rfl, rfl⟩ := (hI _ _ _).mp hz
  simp
  rw [cut_set_app hb2.ltS]
  exact hQ b2 (hb2.le (by omega))
end
end CC
namespace CC
open PySem PySem.Spec PyProof.Rows L2
def flips (f : Bool) (st : List (Bool × Int)) (l : List Str) : List Str := st.foldl (fun l s => if s.1 = f then l.set s.2.toNat (opp (l.getD s.2.toNat "")) else l) l
theorem flips_cons {f : Bool} {st : List (Bool × Int)} {s : Bool × Int} {l : List Str} : flips f (s :: st) l = flips f st (if s.1 = f then l.set s.2.toNat (opp (l.getD s.2.toNat "")) else l) := rfl
theorem flips_snoc {f : Bool} {st : List (Bool × Int)} {s : Bool × Int} {l : List Str} : flips f (st ++ [s]) l = if s.1 = f then (flips f st l).set s.2.toNat (opp ((flips f st l).getD s.2.toNat "")) else flips f st l := by
  unfold flips
  rw [List.foldl_append]
  rfl
theorem flip1_len {f : Bool} {s : Bool × Int} {l : List Str} : (if s.1 = f then l.set s.2.toNat (opp (l.getD s.2.toNat "")) else l).length = l.length := by
  split
  · exact List.length_set
  · rfl
theorem flips_len {f : Bool} : ∀ {st : List (Bool × Int)} {l : List Str}, (flips f st l).length = l.length
  | [], _ => rfl
  | s :: st, l => by rw [flips_cons, flips_len, flip1_len]
theorem flip1_mem {f : Bool} {A B : Str} (hA : opp A = B) (hB : opp B = A) {s : Bool × Int} {l : List Str} (hl : ∀ x ∈ l, x = A ∨ x = B) (hs : s.1 = f → 0 ≤ s.2 ∧ s.2 < l.length) : ∀ x ∈ (if s.1 = f then l.set s.2.toNat (opp (l.getD s.2.toNat "")) else l), x = A ∨ x = B := by
  intro x hx
  split at hx
  · rename_i e
    obtain ⟨h0, h1⟩ := hs e
    rcases List.mem_or_eq_of_mem_set hx with hx | rfl
    · exact hl x hx
    · rw [getD_at h0 h1]
      rcases hl _ (List.getElem_mem (by omega : s.2.toNat < l.length)) with e | e <;> rw [e]
      · exact .inr hA
      · exact .inl hB
  · exact hl x hx
theorem flips_mem {f : Bool} {A B : Str} (hA : opp A = B) (hB : opp B = A) : ∀ {st : List (Bool × Int)} {l : List Str}, (∀ x ∈ l, x = A ∨ x = B) → (∀ s ∈ st, s.1 = f → 0 ≤ s.2 ∧ s.2 < l.length) → ∀ x ∈ flips f st l, x = A ∨ x = B
  | [], _, hl, _ => hl
  | s :: st, l, hl, hs => by
    rw [flips_cons]
    refine flips_mem hA hB (flip1_mem hA hB hl (hs s List.mem_cons_self)) fun t ht e => ?_
    rw [flip1_len]
    exact hs t (List.mem_cons_of_mem _ ht) e
theorem flips_at {f : Bool} : ∀ {st : List (Bool × Int)} {l : List Str} {z : Int}, st.Nodup → (∀ s ∈ st, s.1 = f → 0 ≤ s.2 ∧ s.2 < l.length) → 0 ≤ z → z < l.length → (flips f st l).getD z.toNat "" = if (f, z) ∈ st then opp (l.getD z.toNat "") else l.getD z.toNat ""
  | [], l, z, _, _, _, _ => by simp [flips]
  | s :: st, l, z, nd, hs, z0, z1 => by
    have nd1 := List.nodup_cons.mp nd
    rw [flips_cons, flips_at nd1.2 (fun t ht e => by rw [flip1_len]; exact hs t (List.mem_cons_of_mem _ ht) e) z0 (by rw [flip1_len]; exact z1)]
    by_cases c : s = (f, z)
    · subst c
      rw [if_neg nd1.1, if_pos rfl, if_pos List.mem_cons_self]
      show (l.set z.toNat _).getD z.toNat "" = _
      rw [List.getD_eq_getElem?_getD, List.getElem?_set_self (by omega)]
      rfl
    · have e1 : (if s.1 = f then l.set s.2.toNat (opp (l.getD s.2.toNat "")) else l).getD z.toNat "" = l.getD z.toNat "" := by
        split
        · rename_i e
          have h0 := (hs s List.mem_cons_self e).1
          have ne : s.2.toNat ≠ z.toNat := fun e2 => c (Prod.ext e (by show s.2 = z; omega))
          rw [List.getD_eq_getElem?_getD, List.getElem?_set_ne ne, List.getD_eq_getElem?_getD]
        · rfl
      rw [e1]
      have e2 : ((f, z) ∈ s :: st) ↔ (f, z) ∈ st := by
        rw [List.mem_cons]
        exact ⟨fun h => h.resolve_left fun e => c e.symm, .inr⟩
      by_cases c2 : (f, z) ∈ st
      · rw [if_pos c2, if_pos (e2.mpr c2)]
      · rw [if_neg c2, if_neg fun h => c2 (e2.mp h)]
theorem flips_runs {f : Bool} {A B : Str} (hA : opp A = B) (hB : opp B = A) {st : List (Bool × Int)} {l : List Str} (l0 : l ≠ []) (hl : ∀ x ∈ l, x = A ∨ x = B) (nd : st.Nodup) (hs : ∀ s ∈ st, s.1 = f → 0 ≤ s.2 ∧ s.2 < l.length) : rns (flips f st l) = turnR (rns l) (isort (numsOf f st)) := by
  have r := rns_ok l hl
  have o := r.okR l0
  have t := turn_ok o (isort_asc' (nums_nodup (f := f) nd)) hA hB
  have r2 := rns_ok (flips f st l) (flips_mem hA hB hl hs)
  refine runs_eq r2.pos (ok_pos t.ok) (dif_ascR r2.dif) (ok_asc t.ok) (by rw [r2.tot, flips_len, t.tot, r.tot]) fun z z0 z1 => ?_
  rw [r2.tot, flips_len] at z1
  rw [t.sgn z z0 (by rw [r.tot]; exact z1)]
  have s2 := r2.sgn z.toNat (by rw [flips_len]; omega)
  rw [Int.toNat_of_nonneg z0, ← getD_at z0 (by rw [flips_len]; exact z1)] at s2
  have s1 := r.sgn z.toNat (by omega)
  rw [Int.toNat_of_nonneg z0, ← getD_at z0 z1] at s1
  rw [s2, flips_at nd hs z0 z1]
  unfold flipAt
  rw [s1]
  have e2 : (z ∈ isort (numsOf f st)) ↔ (f, z) ∈ st := by
    rw [(isort_perm').mem_iff, nums_mem]
  by_cases c2 : (f, z) ∈ st
  · rw [if_pos c2, if_pos (e2.mpr c2)]
  · rw [if_neg c2, if_neg fun h => c2 (e2.mp h)]
section
variable {k : Nat} {v : D} {S : Sto} {Q : D → Sto → Prop} {E : Nat → List D → Sto → Prop}
theorem w_small_right {n : Nat} {b : SO} {c : Int} (h : S[n]? = some b) (hb : BagOk b c) (hc : c < 2 ^ 56) (hQ : ∀ b', BagOk b' (c + 300) → Q (.bl true) (S.set n b')) : WR (CF (k + 7) f__law_small_right [.loc n] S) Q E := by
  have hn := old_lt h
  have s1 : ∀ {b : SO} {c : Int} {S : Sto} {Q E}, S[n]? = some b → BagOk b c → c < 2 ^ 59 → (∀ (l : List Str) b', l ≠ [] → (l.length : Int) ≤ 14 → (∀ x ∈ l, x = "E" ∨ x = "W") → BagOk b' (c + 100) → Q (.loc S.length) (S.set n b' ++ [.lst (l.map D.str)])) → WR (CF (k + 6) f__law_streets [.loc n, .str "EW", .int 14] S) Q E := fun h1 h2 h3 h4 => w_streets (k := k + 4) (A := "E") (B := "W") (fun _ => rfl) (fun _ => rfl) h1 h2 h3 (by decide) (by decide) h4
  have s2 : ∀ {b : SO} {c : Int} {S : Sto} {Q E}, S[n]? = some b → BagOk b c → c < 2 ^ 59 → (∀ (l : List Str) b', l ≠ [] → (l.length : Int) ≤ 14 → (∀ x ∈ l, x = "N" ∨ x = "S") → BagOk b' (c + 100) → Q (.loc S.length) (S.set n b' ++ [.lst (l.map D.str)])) → WR (CF (k + 6) f__law_streets [.loc n, .str "NS", .int 14] S) Q E := fun h1 h2 h3 h4 => w_streets (k := k + 4) (A := "N") (B := "S") (fun _ => rfl) (fun _ => rfl) h1 h2 h3 (by decide) (by decide) h4
  have pc : ∀ {r c : D} {R C : List Str} {S : Sto} {Q E}, lstD S r = some (R.map D.str) → lstD S c = some (C.map D.str) → R.length ≤ 1000 → C.length ≤ 1000 → WR (CF (k + 6) f__law_city_of [r, c] S) Q E = Q (encC (rns R) (rns C)) S := fun h1 h2 h3 h4 => e_city_of (k := k + 4) h1 h2 h3 h4
  have sm : ∀ {f : Bool} {l : Runs} {mo : Int} {b : SO} {c : Int} {S : Sto} {Q E}, (∀ p ∈ l, 1 ≤ p.2) → 0 < total l → total l < 2 ^ 150 → l.length ≤ 40 → 0 ≤ mo → mo ≤ 9 → S[n]? = some b → BagOk b c → c < 2 ^ 59 → (∀ (zs : List Int) b', zs.Nodup → (∀ z ∈ zs, 0 ≤ z ∧ z < total l) → (zs.length : Int) ≤ mo → BagOk b' (c + 30) → Q (.fl (zs.map fun z => encSt (f, z))) (S.set n b')) → WR (CF (k + 6) f__law_some [.loc n, encR l, .str (wdS f), .int mo] S) Q E := fun h1 h2 h3 h4 h5 h6 h7 h8 h9 h10 => w_some (k := k + 4) h1 h2 h3 h4 h5 h6 h7 h8 h9 h10
  have rl : ∀ {a b : Runs} {st : List (Bool × Int)} {q : Nat} {S : Sto} {Q E}, Big a b → S[q]? = some (.lst (st.map encSt)) → st.Nodup → st.length < 300 → (∀ s ∈ st, stIn a b s) → WR (CF (k + 6) f_reversed_city [encC a b, .loc q] S) Q E = Q (encC (rvA st a) (rvB st b)) S := fun h1 h2 h3 h4 h5 => e_rev_live (k := k) h1 h2 h3 h4 h5
  rw [cf_run (fd := fd__law_small_right) rfl rfl]
  show Ws (run W (CF (k + 6)) G bd__law_small_right [some (.loc n), none, none, none, none, none, none] S) _
  unfold bd__law_small_right
  generalize CF (k + 6) = C at *
  have gn : ∀ b' J, (S.set n b' ++ J)[n]? = some b' := fun b' J => by rw [List.getElem?_append_left (by simpa using hn)]; exact set_get h
  have un : ∀ b' b'' J, (S.set n b' ++ J).set n b'' = S.set n b'' ++ J := fun b' b'' J => by rw [List.set_append_left _ _ (by simpa using hn), List.set_set]
  have at_ : ∀ b' J j, (S.set n b' ++ J)[S.length + j]? = J[j]? := fun b' J j => by rw [List.getElem?_append_right (by simp)]; simp
  have st_ : ∀ b' J j y, (S.set n b' ++ J).set (S.length + j) y = S.set n b' ++ J.set j y := fun b' J j y => by rw [List.set_append_right _ _ (by simp)]; simp
  obtain ⟨P1, hP1⟩ : ∃ P : Env → Sto → Prop, ∀ ρ S', P ρ S' ↔ ∃ (b' : SO) (R C : List Str), BagOk b' (c + 200) ∧ R ≠ [] ∧ C ≠ [] ∧ R.length ≤ 14 ∧ C.length ≤ 14 ∧ (∀ x ∈ R, x = "E" ∨ x = "W") ∧ (∀ x ∈ C, x = "N" ∨ x = "S") ∧ S' = S.set n b' ++ [.lst (R.map D.str), .lst (C.map D.str), .lst [.loc (S.length + 0), .loc (S.length + 1)]] ∧ ρ = [some (.loc n), some (.loc (S.length + 2)), none, none, none, none, none] := ⟨_, fun _ _ => Iff.rfl⟩
  refine s_seq P1 ?_ ?_
  · simp -implicitDefEqProofs
    refine s1 h hb (by omega) fun R b1 nR lR hR hb1 => ?_
    refine s2 (gn _ _) hb1 (by omega) fun C b2 nC lC hC hb2 => ?_
    rw [un]
    simp -implicitDefEqProofs
    exact (hP1 _ _).mpr ⟨b2, R, C, hb2.le (by omega), nR, nC, by omega, by omega, hR, hC, by simp, rfl⟩
  intro ρ S1 hz
  obtain ⟨b1, R, K, hb1, nR, nK, lR, lK, hR, hK, rfl, rfl⟩ := (hP1 _ _).mp hz
  clear hz hP1 P1 s1 s2
  have rR := rns_ok R hR
  have rK := rns_ok K hK
  have oR := rR.okR nR
  have oK := rK.okR nK
  have bg : Big (rns R) (rns K) := ⟨⟨oR, oK, by have := rR.len; unfold sizeLine; omega, by have := rK.len; unfold sizeLine; omega⟩, by have := rR.len; omega, by have := rK.len; omega, by rw [rR.tot]; omega, by rw [rK.tot]; omega⟩
  obtain ⟨P2, hP2⟩ : ∃ P : Env → Sto → Prop, ∀ ρ S', P ρ S' ↔ ∃ (b' : SO) (st : List (Bool × Int)), BagOk b' (c + 260) ∧ st.Nodup ∧ (∀ s ∈ st, stIn (rns R) (rns K) s) ∧ st.length ≤ 9 ∧ S' = S.set n b' ++ [.lst (R.map D.str), .lst (K.map D.str), .lst [.loc (S.length + 0), .loc (S.length + 1)], .lst (st.map encSt)] ∧ ρ = [some (.loc n), some (.loc (S.length + 2)), some (encC (rns R) (rns K)), some (.loc (S.length + 3)), none, none, none] := ⟨_, fun _ _ => Iff.rfl⟩
  have ix0 : ∀ S, ixD (encC (rns R) (rns K)) (.int 0) S = some (encR (rns R)) := fun _ => rfl
  have ix1 : ∀ S, ixD (encC (rns R) (rns K)) (.int 1) S = some (encR (rns K)) := fun _ => rfl
  refine s_seq (fun ρ S' => S' = S.set n b1 ++ [.lst (R.map D.str), .lst (K.map D.str), .lst [.loc (S.length + 0), .loc (S.length + 1)]] ∧ ρ = [some (.loc n), some (.loc (S.length + 2)), some (encC (rns R) (rns K)), none, none, none, none]) ?_ ?_
  · have g2 : lstAt (S.set n b1 ++ [.lst (R.map D.str), .lst (K.map D.str), .lst [.loc (S.length + 0), .loc (S.length + 1)]]) (S.length + 2) = some [.loc (S.length + 0), .loc (S.length + 1)] := lst_at (at_ b1 _ 2)
    have l0 : lstD (S.set n b1 ++ [.lst (R.map D.str), .lst (K.map D.str), .lst [.loc (S.length + 0), .loc (S.length + 1)]]) (.loc (S.length + 0)) = some (R.map D.str) := lst_at (at_ b1 _ 0)
    have l1 : lstD (S.set n b1 ++ [.lst (R.map D.str), .lst (K.map D.str), .lst [.loc (S.length + 0), .loc (S.length + 1)]]) (.loc (S.length + 1)) = some (K.map D.str) := lst_at (at_ b1 _ 1)
    generalize S.set n b1 ++ [.lst (R.map D.str), .lst (K.map D.str), .lst [.loc (S.length + 0), .loc (S.length + 1)]] = T at *
    generalize S.length + 2 = q at *
    generalize S.length + 0 = q0 at *
    generalize S.length + 1 = q1 at *
    simp -implicitDefEqProofs [g2]
    rw [pc l0 l1 (by omega) (by omega)]
    exact ⟨rfl, rfl⟩
  rintro ρ S1 ⟨rfl, rfl⟩
  refine s_seq P2 ?_ ?_
  · simp -implicitDefEqProofs [ix0, ix1]
    refine sm (f := false) rR.pos (total_pos oR) (by rw [rR.tot]; omega) (by have := rR.len; omega) (by decide) (by decide) (gn _ _) hb1 (by omega) fun xs b2 n1 r1 l1 hb2 => ?_
    rw [un]
    refine sm (f := true) rK.pos (total_pos oK) (by rw [rK.tot]; omega) (by have := rK.len; omega) (by decide) (by decide) (gn _ _) hb2 (by omega) fun ys b3 n2 r2 l2 hb3 => ?_
    rw [un]
    simp -implicitDefEqProofs
    refine ⟨by unfold sizeLine; omega, ?_⟩
    have tw := two_ok n1 n2 r1 r2
    rw [two_enc]
    exact (hP2 _ _).mpr ⟨b3, two xs ys, hb3.le (by omega), tw.1, tw.2, by unfold two; simp; omega, by simp, rfl⟩
  intro ρ S1 hz
  obtain ⟨b2, st, hb2, nd, si, sl, rfl, rfl⟩ := (hP2 _ _).mp hz
  clear hz hP2 P2 hb1
  have sR : ∀ s ∈ st, s.1 = false → 0 ≤ s.2 ∧ s.2 < R.length := fun s hs e => by
    have := si s hs
    unfold stIn at this
    rw [e] at this
    have h2 : s.2 < total (rns R) := this.2
    rw [rR.tot] at h2
    exact ⟨this.1, h2⟩
  have sK : ∀ s ∈ st, s.1 = true → 0 ≤ s.2 ∧ s.2 < K.length := fun s hs e => by
    have := si s hs
    unfold stIn at this
    rw [e] at this
    have h2 : s.2 < total (rns K) := this.2
    rw [rK.tot] at h2
    exact ⟨this.1, h2⟩
  obtain ⟨J, hJ⟩ : ∃ J : List (Bool × Int) → Env → Sto → Prop, ∀ r ρ S', J r ρ S' ↔ ∃ (dn : List (Bool × Int)) (u4 u5 u6 : Option D), dn ++ r = st ∧ S' = S.set n b2 ++ [.lst ((flips false dn R).map D.str), .lst ((flips true dn K).map D.str), .lst [.loc (S.length + 0), .loc (S.length + 1)], .lst (st.map encSt)] ∧ ρ = [some (.loc n), some (.loc (S.length + 2)), some (encC (rns R) (rns K)), some (.loc (S.length + 3)), u4, u5, u6] := ⟨_, fun _ _ _ => Iff.rfl⟩
  refine s_seq (J []) ?_ ?_
  · simp -implicitDefEqProofs
    have l3 : lstD (S.set n b2 ++ [.lst (R.map D.str), .lst (K.map D.str), .lst [.loc (S.length + 0), .loc (S.length + 1)], .lst (st.map encSt)]) (.loc (S.length + 3)) = some (st.map encSt) := lst_at (at_ b2 _ 3)
    refine so_ofG l3 fun src hw => ?_
    refine ws_walk (m := st) (f := encSt) J ?_ ?_ (fun _ _ h => h) ((hJ _ _ _).mpr ⟨[], _, _, _, rfl, rfl, rfl⟩)
    · intro r ρ S' hz
      obtain ⟨dn, u4, u5, u6, _, rfl, rfl⟩ := (hJ _ _ _).mp hz
      exact hw _ (lst_at (at_ b2 _ 3))
    · intro s r ρ S' hs hz
      obtain ⟨dn, u4, u5, u6, he, rfl, rfl⟩ := (hJ _ _ _).mp hz
      clear hz
      obtain ⟨f, z⟩ := s
      have e0 : encSt (f, z) = .tup [.str (if f = true then "column" else "row"), .int z] := rfl
      have hw2 : ∀ S, cmpD .Eq (.str (if f = true then "column" else "row")) (.str "column") S = some f := fun S => by cases f <;> rfl
      have hi : ∀ (a b : Nat), atI [D.loc a, .loc b] (if f = true then 1 else 0) = some (.loc (if f = true then b else a)) := fun a b => by cases f <;> rfl
      obtain ⟨z0, z1⟩ : 0 ≤ z ∧ z < (flips f dn (if f = true then K else R)).length := by
        rw [flips_len]
        cases f
        · exact sR _ hs rfl
        · exact sK _ hs rfl
      have lx : ∀ x ∈ flips f dn (if f = true then K else R), letter x := fun x hx => by
        have sub : ∀ s ∈ dn, s ∈ st := fun s h => by rw [← he]; exact List.mem_append_left _ h
        cases f
        · rcases flips_mem (A := "E") (B := "W") (by decide) (by decide) hR (fun s h e => sR s (sub s h) e) x hx with e | e <;> rw [e] <;> simp [letter]
        · rcases flips_mem (A := "N") (B := "S") (by decide) (by decide) hK (fun s h e => sK s (sub s h) e) x hx with e | e <;> rw [e] <;> simp [letter]
      have fin : ∀ u4 u5 u6, J r [some (.loc n), some (.loc (S.length + 2)), some (encC (rns R) (rns K)), some (.loc (S.length + 3)), u4, u5, u6] (S.set n b2 ++ [.lst ((flips false (dn ++ [(f, z)]) R).map D.str), .lst ((flips true (dn ++ [(f, z)]) K).map D.str), .lst [.loc (S.length + 0), .loc (S.length + 1)], .lst (st.map encSt)]) := fun u4 u5 u6 => (hJ _ _ _).mpr ⟨dn ++ [(f, z)], u4, u5, u6, by rw [← he, List.append_assoc]; rfl, rfl, rfl⟩
      rw [flips_snoc, flips_snoc] at fin
      obtain ⟨tl, htl⟩ : ∃ tl, tl = if f = true then S.length + 1 else S.length + 0 := ⟨_, rfl⟩
      obtain ⟨l, hl⟩ : ∃ l, l = flips f dn (if f = true then K else R) := ⟨_, rfl⟩
      obtain ⟨T, hT⟩ : ∃ T, T = S.set n b2 ++ [.lst ((flips false dn R).map D.str), .lst ((flips true dn K).map D.str), .lst [.loc (S.length + 0), .loc (S.length + 1)], .lst (st.map encSt)] := ⟨_, rfl⟩
      have t2 : lstAt T (S.length + 2) = some [.loc (S.length + 0), .loc (S.length + 1)] := by rw [hT]; exact lst_at (at_ b2 _ 2)
      have tt : T[tl]? = some (.lst (l.map D.str)) := by
        rw [hT, htl, hl]
        cases f
        · exact at_ b2 _ 0
        · exact at_ b2 _ 1
      have fin2 : ∀ u4 u5 u6, J r [some (.loc n), some (.loc (S.length + 2)), some (encC (rns R) (rns K)), some (.loc (S.length + 3)), u4, u5, u6] (T.set tl (.lst ((l.set z.toNat (opp (l.getD z.toNat ""))).map D.str))) := fun u4 u5 u6 => by
        have := fin u4 u5 u6
        rw [hT, htl, hl]
        cases f
        · rw [if_pos rfl, if_neg (fun e => Bool.noConfusion e)] at this
          rw [if_neg Bool.false_ne_true, if_neg Bool.false_ne_true, st_]
          exact this
        · rw [if_neg (fun e => Bool.noConfusion e), if_pos rfl] at this
          rw [if_pos rfl, if_pos rfl, st_]
          exact this
      have ha : ∀ S2 : Sto, lstAt S2 (S.length + 2) = some [.loc (S.length + 0), .loc (S.length + 1)] → ixL (lstAt S2 (S.length + 2)) (dicAt S2 (S.length + 2)) (dnAt S2 (S.length + 2)) (.int (if f = true then 1 else 0)) = some (.loc tl) := fun S2 h => by
        rw [h, htl, ixL_some, hi]
      rw [← hl] at z1 lx
      rw [e0, ← hT]
      clear hT fin htl hl
      generalize S.length + 0 = qa at *
      generalize S.length + 1 = qb at *
      generalize S.length + 2 = qc at *
      generalize S.length + 3 = qd at *
      have rat : atI (l.map D.str) z = some (.str (l.getD z.toNat "")) := by
        rw [atI_of z0 (by simp; omega), getD_at z0 (by omega)]
        simp
      have hlet : letter (l.getD z.toNat "") := by
        rw [getD_at z0 (by omega)]
        exact lx _ (List.getElem_mem _)
      generalize l.getD z.toNat "" = y at rat hlet fin2
      have hix : ∀ S, ixD (.fd ([((.inr "E" : Key), D.str "W"), (.inr "W", D.str "E"), (.inr "N", .str "S"), (.inr "S", .str "N")].map (·.1)) ([((.inr "E" : Key), D.str "W"), (.inr "W", D.str "E"), (.inr "N", .str "S"), (.inr "S", .str "N")].map (·.2))) (.str y) S = some (.str (opp y)) := fun S => by
        rcases hlet with rfl | rfl | rfl | rfl <;> rfl
      generalize (if f = true then ("column" : Str) else "row") = w at *
      simp -implicitDefEqProofs [hw2, ha T t2]
      simp only [ddP, dd8, optP]
      rw [fr_dnew (by simp)]
      simp only [lst_at tt, ixL_some, rat, hix]
      rw [setIx_at tt (j := z.toNat) (by unfold ixN; rw [if_pos z0, if_pos (by simp; omega)])]
      have eR : (l.map D.str).set z.toNat (.str (opp y)) = (l.set z.toNat (opp y)).map D.str := by rw [List.map_set]
      rw [eR]
      exact ⟨by decide, fin2 _ _ _⟩
  intro ρ S1 hz
  obtain ⟨dn, u4, u5, u6, he, rfl, rfl⟩ := (hJ _ _ _).mp hz
  rw [List.append_nil] at he
  subst he
  clear hz hJ J
  have fR : rns (flips false dn R) = rvA dn (rns R) := flips_runs (by decide) (by decide) nR hR nd sR
  have fK : rns (flips true dn K) = rvB dn (rns K) := flips_runs (by decide) (by decide) nK hK nd sK
  have l0 : lstD (S.set n b2 ++ [.lst ((flips false dn R).map D.str), .lst ((flips true dn K).map D.str), .lst [.loc (S.length + 0), .loc (S.length + 1)], .lst (dn.map encSt)]) (.loc (S.length + 0)) = some ((flips false dn R).map D.str) := lst_at (at_ b2 _ 0)
  have l1 : lstD (S.set n b2 ++ [.lst ((flips false dn R).map D.str), .lst ((flips true dn K).map D.str), .lst [.loc (S.length + 0), .loc (S.length + 1)], .lst (dn.map encSt)]) (.loc (S.length + 1)) = some ((flips true dn K).map D.str) := lst_at (at_ b2 _ 1)
  have g2 : lstAt (S.set n b2 ++ [.lst ((flips false dn R).map D.str), .lst ((flips true dn K).map D.str), .lst [.loc (S.length + 0), .loc (S.length + 1)], .lst (dn.map encSt)]) (S.length + 2) = some [.loc (S.length + 0), .loc (S.length + 1)] := lst_at (at_ b2 _ 2)
  have g3 := at_ b2 [.lst ((flips false dn R).map D.str), .lst ((flips true dn K).map D.str), .lst [.loc (S.length + 0), .loc (S.length + 1)], .lst (dn.map encSt)] 3
  have hcut : cutS S true (S.set n b2 ++ [.lst ((flips false dn R).map D.str), .lst ((flips true dn K).map D.str), .lst [.loc (S.length + 0), .loc (S.length + 1)], .lst (dn.map encSt)]) = S.set n b2 := cut_set_app hb2.ltS
  have lf : (flips false dn R).length ≤ 1000 := by rw [flips_len]; omega
  have lt : (flips true dn K).length ≤ 1000 := by rw [flips_len]; omega
  have bv := (turned_big bg nd (by have := rR.len; omega) (by have := rK.len; omega)).1
  generalize S.set n b2 ++ [.lst ((flips false dn R).map D.str), .lst ((flips true dn K).map D.str), .lst [.loc (S.length + 0), .loc (S.length + 1)], .lst (dn.map encSt)] = T at *
  generalize S.length + 0 = qa at *
  generalize S.length + 1 = qb at *
  generalize S.length + 2 = qc at *
  generalize S.length + 3 = qd at *
  simp -implicitDefEqProofs
  rw [rl bg g3 nd (by omega) si]
  simp -implicitDefEqProofs [g2]
  rw [pc l0 l1 lf lt, fR, fK]
  have eqt : cmpD .Eq (encC (rvA dn (rns R)) (rvB dn (rns K))) (encC (rvA dn (rns R)) (rvB dn (rns K))) T = some true := eq_cl (n := 3) (m := 3) (cl_city bv) (cl_city bv) (by omega) (by omega) (by simp)
  rw [eqt]
  show Q (.bl true) (cutS S true T)
  rw [hcut]
  exact hQ b2 (hb2.le (by omega))
end
end CC
namespace CC
open PySem PySem.Spec PyProof.Rows L2
theorem fz_len {i m : Nat} {S0 A J1 : Sto} {ρ : Env} {p : Po} {ds : List D} (h : ρ[i]?.bind id = some (.loc m)) (e : (A ++ J1)[m]? = some (.lst ds)) (hm : A.length ≤ m) (hS : A.length ≤ S0.length) (hp : ∀ G1, p.nx (ρ.set i (some (.fl ds))) (A ++ G1)) : Ws (fzE i S0 ρ (A ++ J1)) p := by
  rw [fz_at h e, List.set_append_right _ _ hm]
  unfold cutS
  split
  · rw [List.take_append, List.take_of_length_le hS]
    exact hp _
  · exact hp _
def base (m : Nat) : List Int := (List.range m).map fun i : Nat => (i : Int)
theorem base_enc {m : Nat} : rangeD 0 m = (base m).map D.int := by
  unfold rangeD base
  rw [List.map_map]
  refine List.map_congr_left fun i _ => ?_
  show D.int (0 + (i : Int)) = D.int i
  rw [Int.zero_add]
theorem base_nodup {m : Nat} : (base m).Nodup := List.Pairwise.map _ (fun x y h e => h (Int.ofNat.inj e)) List.nodup_range
theorem base_mem {m : Nat} {z : Int} (h : z ∈ base m) : 0 ≤ z ∧ z < m := by
  obtain ⟨i, hi, rfl⟩ := List.mem_map.mp h
  rw [List.mem_range] at hi
  omega
theorem base_len {m : Nat} : (base m).length = m := by unfold base; simp
theorem erase_map {α β : Type} (f : α → β) : ∀ (l : List α) (j : Nat), (l.map f).eraseIdx j = (l.eraseIdx j).map f
  | [], _ => rfl
  | _ :: _, 0 => rfl
  | x :: l, j + 1 => by
    show f x :: (l.map f).eraseIdx j = f x :: (l.eraseIdx j).map f
    rw [erase_map f l j]
section
variable {k : Nat} {v : D} {S : Sto} {Q : D → Sto → Prop} {E : Nat → List D → Sto → Prop}
theorem w_large_right {n : Nat} {b : SO} {c : Int} (h : S[n]? = some b) (hb : BagOk b c) (hc : c < 2 ^ 55) (hQ : ∀ b', BagOk b' (c + 1000) → Q (.bl true) (S.set n b')) : WR (CF (k + 7) f__law_large_right [.loc n] S) Q E := by
  have hn := old_lt h
  have dr : ∀ {j c : Int} {b : SO} {S : Sto} {Q E}, S[n]? = some b → BagOk b c → c < 2 ^ 60 → 0 < j → j < 2 ^ 200 → (∀ r b', 0 ≤ r → r < j → BagOk b' (c + 1) → Q (.int r) (S.set n b')) → WR (CF (k + 6) f__law_draw [.loc n, .int j] S) Q E := fun h1 h2 h3 h4 h5 h6 => w_draw (k := k + 5) h1 h2 h3 h4 h5 h6
  have tw : ∀ {mo wi c : Int} {b : SO} {S : Sto} {Q E}, S[n]? = some b → BagOk b c → c < 2 ^ 58 → 0 < mo → mo ≤ 20 → 0 < wi → wi ≤ 10 ^ 30 → (∀ x y b', TownB x y → BagOk b' (c + 200) → Q (encC x y) (S.set n b')) → WR (CF (k + 6) f__law_town [.loc n, .int mo, .int wi] S) Q E := fun h1 h2 h3 h4 h5 h6 h7 h8 => w_town (k := k + 3) h1 h2 h3 h4 h5 h6 h7 h8
  have ic : ∀ {a b : Runs} {S : Sto} {Q E}, Big a b → Q (.bl true) S → WR (CF (k + 6) f_is_city [encC a b] S) Q E := fun {a b S Q E} tb hq => by
    rw [e_is_city (k := k + 2) tb.t.nice, tb.t.city]
    exact hq
  have rf : ∀ {a b : Runs} {st : List (Bool × Int)} {S : Sto} {Q E}, Big a b → st.Nodup → st.length < 300 → (∀ s ∈ st, stIn a b s) → WR (CF (k + 6) f_reversed_city [encC a b, .fl (st.map encSt)] S) Q E = Q (encC (rvA st a) (rvB st b)) S := fun h1 h2 h3 h4 => e_reversed_okG (k := k) h1 h2 h3 h4
  have du : ∀ {x y : Runs} {st : List (Bool × Int)} {S : Sto} {Q E}, TownB x y → st.Nodup → (∀ s ∈ st, stIn x y s) → st.length ≤ 300 → Q (encR (rvA st x)) S → WR (CF (k + 6) f__law_turned [encR x, .fl ((numsOf false st).map D.int)] S) Q E := fun {x y st S Q E} t h1 h2 h3 hq =>
    w_due (k := k + 4) t.oa (by decide) (by decide) (by simp [letter]) (by simp [letter]) (by have := t.la; omega) (by have := nums_len (f := false) (l := st); omega) (fun m hm => h2 (false, m) (nums_mem.mp hm)) (isort_asc' (nums_nodup h1)) (fun m => (isort_perm').mem_iff) hq
  have dv : ∀ {x y : Runs} {st : List (Bool × Int)} {S : Sto} {Q E}, TownB x y → st.Nodup → (∀ s ∈ st, stIn x y s) → st.length ≤ 300 → Q (encR (rvB st y)) S → WR (CF (k + 6) f__law_turned [encR y, .fl ((numsOf true st).map D.int)] S) Q E := fun {x y st S Q E} t h1 h2 h3 hq =>
    w_due (k := k + 4) t.ob (by decide) (by decide) (by simp [letter]) (by simp [letter]) (by have := t.lb; omega) (by have := nums_len (f := true) (l := st); omega) (fun m hm => h2 (true, m) (nums_mem.mp hm)) (isort_asc' (nums_nodup h1)) (fun m => (isort_perm').mem_iff) hq
  rw [cf_run (fd := fd__law_large_right) rfl rfl]
  show Ws (run W (CF (k + 6)) G bd__law_large_right [some (.loc n), none, none, none, none, none, none, none, none, none, none, none, none, none, none] S) _
  unfold bd__law_large_right
  generalize CF (k + 6) = C at *
  obtain ⟨P1, hP1⟩ : ∃ P : Env → Sto → Prop, ∀ ρ S', P ρ S' ↔ ∃ (b' : SO) (x y : Runs), TownB x y ∧ BagOk b' (c + 201) ∧ S' = S.set n b' ++ [.lst []] ∧ ρ = [some (.loc n), some (encC x y), some (.loc S.length), none, none, none, none, none, none, none, none, none, none, none, none] := ⟨_, fun _ _ => Iff.rfl⟩
  refine s_seq (fun ρ S' => ∃ (b' : SO) (x y : Runs), TownB x y ∧ BagOk b' (c + 201) ∧ S' = S.set n b' ∧ ρ = [some (.loc n), some (encC x y), none, none, none, none, none, none, none, none, none, none, none, none, none]) ?_ ?_
  · simp -implicitDefEqProofs
    refine dr h hb (by omega) (by decide) (by decide) fun r b1 r0 r1 hb1 => ?_
    have e2 : ∃ w : Int, (w = 2 ∨ w = 30) ∧ ∀ S, ixD (.fl [.int 2, .int 30]) (.int r) S = some (.int w) := by
      rcases (by omega : r = 0 ∨ r = 1) with rfl | rfl
      · exact ⟨2, .inl rfl, fun _ => rfl⟩
      · exact ⟨30, .inr rfl, fun _ => rfl⟩
    obtain ⟨w, hw, ew⟩ := e2
    rw [ew]
    simp -implicitDefEqProofs
    refine tw (set_get h) hb1 (by omega) (by decide) (by decide) (by omega) (by rcases hw with rfl | rfl <;> decide +kernel) fun x y b2 t hb2 => ?_
    rw [List.set_set]
    exact ⟨b2, x, y, t, hb2.le (by omega), rfl, rfl⟩
  rintro ρ S1 ⟨b1, x, y, t, hb1, rfl, rfl⟩
  refine s_seq P1 ?_ ?_
  · simp -implicitDefEqProofs
    exact (hP1 _ _).mpr ⟨b1, x, y, t, hb1, rfl, rfl⟩
  clear t
  intro ρ S1 hz
  obtain ⟨b2, x, y, t, hb2, rfl, rfl⟩ := (hP1 _ _).mp hz
  clear hz hP1 P1 hb1 b1 tw
  have gn : ∀ b' J, (S.set n b' ++ J)[n]? = some b' := fun b' J => by rw [List.getElem?_append_left (by simpa using hn)]; exact set_get h
  have un : ∀ b' b'' J, (S.set n b' ++ J).set n b'' = S.set n b'' ++ J := fun b' b'' J => by rw [List.set_append_left _ _ (by simpa using hn), List.set_set]
  have at_ : ∀ b' J j, (S.set n b' ++ J)[S.length + j]? = J[j]? := fun b' J j => by rw [List.getElem?_append_right (by simp)]; simp
  have st_ : ∀ b' J j y, (S.set n b' ++ J).set (S.length + j) y = S.set n b' ++ J.set j y := fun b' J j y => by rw [List.set_append_right _ _ (by simp)]; simp
  have at0 : ∀ b' u J, (S.set n b' ++ (u :: J))[S.length]? = some u := fun b' u J => at_ b' (u :: J) 0
  have st0 : ∀ b' u J y, (S.set n b' ++ (u :: J)).set S.length y = S.set n b' ++ (y :: J) := fun b' u J y => st_ b' (u :: J) 0 y
  have iw : ∀ (f : Bool) S, ixD (encC x y) (.int (if f = true then 1 else 0)) S = some (encR (if f = true then y else x)) := fun f S => by cases f <;> rfl
  obtain ⟨I, hI⟩ : ∃ I : List Bool → Env → Sto → Prop, ∀ r ρ S', I r ρ S' ↔ ∃ (b' : SO) (st : List (Bool × Int)) (don : List Bool) (J : List SO) (u3 u4 u5 u6 u7 : Option D), don ++ r = [false, true] ∧ BagOk b' (c + 201 + 102 * don.length) ∧ st.Nodup ∧ (∀ s ∈ st, stIn x y s ∧ s.1 ∈ don) ∧ st.length ≤ 100 * don.length ∧ S' = S.set n b' ++ (.lst (st.map encSt) :: J) ∧ ρ = [some (.loc n), some (encC x y), some (.loc S.length), u3, u4, u5, u6, u7, none, none, none, none, none, none, none] := ⟨_, fun _ _ _ => Iff.rfl⟩
  refine s_seq (I []) ?_ ?_
  · simp -implicitDefEqProofs
    have em : enumL 0 [.str "row", .str "column"] = [false, true].map fun f : Bool => D.tup [.int (if f = true then 1 else 0), .str (wdS f)] := rfl
    rw [em]
    refine ws_for_map (m := [false, true]) (f := fun f : Bool => D.tup [.int (if f = true then 1 else 0), .str (wdS f)]) I ?_ (fun _ _ h => h) ((hI _ _ _).mpr ⟨b2, [], [], [], _, _, _, _, _, rfl, hb2.le (by simp), List.nodup_nil, (fun _ h => nomatch h), Nat.le_refl _, rfl, rfl⟩)
    intro f r ρ S1 hz
    obtain ⟨b3, st, don, J, u3, u4, u5, u6, u7, hd, hb3, nd, si, sl, rfl, rfl⟩ := (hI _ _ _).mp hz
    clear hz
    have nf : f ∉ don := by
      have : (don ++ f :: r).Nodup := by rw [hd]; decide
      rw [List.nodup_append] at this
      exact fun h => this.2.2 f h f List.mem_cons_self rfl
    have dl : don.length ≤ 1 := by
      have := congrArg List.length hd
      simp at this
      omega
    obtain ⟨ax, hax⟩ : ∃ ax : Int, ax = if f = true then 1 else 0 := ⟨_, rfl⟩
    have iw2 := iw f
    rw [← hax] at iw2
    obtain ⟨l, hl⟩ : ∃ l, l = if f = true then y else x := ⟨_, rfl⟩
    rw [← hl] at iw2
    have lt : total l < 2 ^ 150 := by rw [hl]; split; exact bnd_total t.lb t.bb; exact bnd_total t.la t.ba
    have lp : 0 < total l := by rw [hl]; split; exact total_pos t.ob; exact total_pos t.oa
    have ll : l.length ≤ 20 := by rw [hl]; split; exact t.lb; exact t.la
    show Ws (run W C G (.cons _ _) [some (.loc n), some (encC x y), some (.loc S.length), some (.int (if f = true then 1 else 0)), some (.str (wdS f)), u5, u6, u7, none, none, none, none, none, none, none] _) _
    rw [← hax]
    refine s_seq (fun ρ S' => S' = S.set n b3 ++ (.lst (st.map encSt) :: J) ∧ ρ = [some (.loc n), some (encC x y), some (.loc S.length), some (.int ax), some (.str (wdS f)), some (.int (total l)), u6, u7, none, none, none, none, none, none, none]) ?_ ?_
    · simp -implicitDefEqProofs [iw2, encR]
      refine lc_m (m := l) (enc := encP) (fun p => .int p.2) (by unfold sizeLine; omega) (fun p hp => ?_) ?_
      · simp [encP]
      · simp [intsOf_map]
        rfl
    rintro ρ S1 ⟨rfl, rfl⟩
    obtain ⟨q, hq⟩ : ∃ q, q = (S.set n b3 ++ (SO.lst (st.map encSt) :: J)).length := ⟨_, rfl⟩
    refine s_seq (fun ρ S' => ∃ m : Nat, 0 < m ∧ m ≤ 130 ∧ (m : Int) ≤ total l ∧ S' = S.set n b3 ++ (.lst (st.map encSt) :: (J ++ [.lst ((base m).map D.int)])) ∧ ρ = [some (.loc n), some (encC x y), some (.loc S.length), some (.int ax), some (.str (wdS f)), some (.int (total l)), some (.loc q), u7, none, none, none, none, none, none, none]) ?_ ?_
    · simp -implicitDefEqProofs
      refine ⟨⟨small62_of (by omega) (by omega), by omega⟩, (if 130 < total l then 130 else total l).toNat, by omega, by omega, by omega, base_enc, ?_⟩
      rw [hq]
      simp
    rintro ρ S1 ⟨m, m0, m1, m2, rfl, rfl⟩
    have hq2 : q = S.length + (J.length + 1) := by rw [hq]; simp
    have gq : ∀ b' st' sp, (S.set n b' ++ (SO.lst st' :: (J ++ [SO.lst sp])))[q]? = some (.lst sp) := fun b' st' sp => by rw [hq2, at_]; simp
    have uq : ∀ b' st' sp sp', (S.set n b' ++ (SO.lst st' :: (J ++ [SO.lst sp]))).set q sp' = S.set n b' ++ (SO.lst st' :: (J ++ [sp'])) := fun b' st' sp sp' => by rw [hq2, st_, List.set_cons_succ, List.set_append_right _ _ (Nat.le_refl _)]; simp
    clear hq
    obtain ⟨K, hK⟩ : ∃ K : Nat → Env → Sto → Prop, ∀ i ρ S', K i ρ S' ↔ ∃ (b' : SO) (zs rest : List Int) (u7 : Option D), BagOk b' (c + 201 + 102 * don.length + 2 + i) ∧ (zs ++ rest).Perm (base m) ∧ zs.length = i ∧ S' = S.set n b' ++ (.lst ((st ++ zs.map fun z => (f, z)).map encSt) :: (J ++ [.lst (rest.map D.int)])) ∧ ρ = [some (.loc n), some (encC x y), some (.loc S.length), some (.int ax), some (.str (wdS f)), some (.int (total l)), some (.loc q), u7, none, none, none, none, none, none, none] := ⟨_, fun _ _ _ => Iff.rfl⟩
    simp -implicitDefEqProofs [lst_at (gq _ _ _)]
    refine dr (gn _ _) hb3 (by omega) (by decide) (by decide) fun a b4 a0 a1 hb4 => ?_
    rw [un, fr_bag (fun j => hb4.ltS) (fun j => by simp) (by simp)]
    refine dr (gn _ _) hb4 (by omega) (by decide) (by decide) fun g b5 g0 g1 hb5 => ?_
    rw [un]
    obtain ⟨e, e0, e1, ee⟩ : ∃ e : Int, 0 ≤ e ∧ e ≤ 100 ∧ ∀ S, ixD (.fl [.int 100, .int a]) (.int g) S = some (.int e) := by
      rcases (by omega : g = 0 ∨ g = 1) with rfl | rfl
      · exact ⟨100, by decide, by decide, fun _ => rfl⟩
      · exact ⟨a, a0, by omega, fun _ => rfl⟩
    rw [ee]
    have bl := base_len (m := m)
    simp -implicitDefEqProofs [bl]
    obtain ⟨e2, he2⟩ : ∃ e2 : Int, e2 = if e < (m : Int) then e else m := ⟨_, rfl⟩
    rw [← he2]
    have b20 : 0 ≤ e2 := by omega
    have b21 : e2 ≤ 100 := by omega
    have b22 : e2 ≤ m := by omega
    clear he2
    refine ⟨small62_of (by omega) (by omega), ?_⟩
    refine ws_range K ?_ ?_ ((hK _ _ _).mpr ⟨b5, [], base m, _, hb5.le (by omega), List.Perm.refl _, rfl, by simp, rfl⟩)
    · intro i ρ S1 hi hz
      obtain ⟨b6, zs, rest, u7, hb6, pm, zl, rfl, rfl⟩ := (hK _ _ _).mp hz
      clear hz
      have pl := pm.length_eq
      rw [List.length_append, base_len] at pl
      simp only [List.set_cons_succ, List.set_cons_zero]
      obtain ⟨w7, hw7⟩ : ∃ w : Option D, w = some (.int (0 + (i : Nat))) := ⟨_, rfl⟩
      rw [← hw7]
      clear hw7
      obtain ⟨s3, hs3⟩ : ∃ s3, s3 = st ++ zs.map fun z => (f, z) := ⟨_, rfl⟩
      have sl3 : s3.length ≤ 300 := by rw [hs3, List.length_append, List.length_map]; omega
      rw [← hs3]
      simp -implicitDefEqProofs [lst_at (gq _ _ _)]
      refine ⟨isLst_at (at0 _ _ _), isLst_at (gq _ _ _), ?_⟩
      refine dr (gn _ _) hb6 (by omega) (by omega) (by omega) fun o b7 o0 o1 hb7 => ?_
      rw [un]
      obtain ⟨j, rfl⟩ := Int.eq_ofNat_of_zero_le o0
      have hj : j < rest.length := by omega
      have hj2 : (rest.map D.int)[j]? = some (.int rest[j]) := by rw [List.getElem?_map, List.getElem?_eq_getElem hj]; rfl
      rw [mt_any (gq _ _ _) (mt_popAt hj2 (by omega)), uq, mt_append (at0 _ _ _), st0]
      refine ⟨by rw [List.length_map]; unfold sizeLine; omega, ?_⟩
      refine (hK _ _ _).mpr ⟨b7, zs ++ [rest[j]], rest.eraseIdx j, w7, hb7.le (by push_cast; omega), ?_, by simp [zl], ?_, rfl⟩
      · rw [List.append_assoc]
        exact ((erase_perm hj).append_left zs).trans pm
      · rw [hs3]
        have es : D.tup [.str (wdS f), .int rest[j]] = encSt (f, rest[j]) := rfl
        have er : (rest.map D.int).eraseIdx j = (rest.eraseIdx j).map D.int := erase_map _ _ _
        rw [es, er]
        simp
    · intro ρ S1 hz
      obtain ⟨b6, zs, rest, u7, hb6, pm, zl, rfl, rfl⟩ := (hK _ _ _).mp hz
      have pn := (pm.nodup_iff.mpr base_nodup)
      rw [List.nodup_append] at pn
      refine (hI _ _ _).mpr ⟨b6, st ++ zs.map (fun z => (f, z)), don ++ [f], J ++ [.lst (rest.map D.int)], _, _, _, _, _, by rw [List.append_assoc]; exact hd, hb6.le (by simp; omega), ?_, fun s hs => ?_, ?_, rfl, rfl⟩
      · rw [List.nodup_append]
        refine ⟨nd, List.Pairwise.map _ (fun a b h e => h (congrArg Prod.snd e)) pn.1, fun s hs s' hs' e => ?_⟩
        obtain ⟨z, _, rfl⟩ := List.mem_map.mp hs'
        have := (si s hs).2
        rw [e] at this
        exact nf this
      · rcases List.mem_append.mp hs with hs | hs
        · exact ⟨(si s hs).1, List.mem_append_left _ (si s hs).2⟩
        · obtain ⟨z, hz2, rfl⟩ := List.mem_map.mp hs
          have := base_mem (pm.mem_iff.mp (List.mem_append_left _ hz2))
          refine ⟨⟨this.1, ?_⟩, by simp⟩
          show z < total (if f = true then y else x)
          rw [← hl]
          omega
      · rw [List.length_append, List.length_append, List.length_map, List.length_singleton, zl]
        omega
  intro ρ S1 hz
  obtain ⟨b3, st, don, J, u3, u4, u5, u6, u7, hd, hb3, nd, si, sl, rfl, rfl⟩ := (hI _ _ _).mp hz
  rw [List.append_nil] at hd
  subst hd
  clear hz hI I hb2 b2
  have sl2 : st.length ≤ 200 := sl
  have hb4 : BagOk b3 (c + 405) := hb3.le (by simp; omega)
  have si2 : ∀ s ∈ st, stIn x y s := fun s hs => (si s hs).1
  clear sl hb3 si
  obtain ⟨P2, hP2⟩ : ∃ P : Env → Sto → Prop, ∀ ρ S', P ρ S' ↔ ∃ (b' : SO) (st : List (Bool × Int)) (G1 : List SO) (u7 : Option D), BagOk b' (c + 705) ∧ st.Nodup ∧ (∀ s ∈ st, stIn x y s) ∧ st.length ≤ 200 ∧ S' = S.set n b' ++ G1 ∧ ρ = [some (.loc n), some (encC x y), some (.fl (st.map encSt)), u3, u4, u5, u6, u7, none, none, none, none, none, none, none] := ⟨_, fun _ _ => Iff.rfl⟩
  refine s_seq P2 ?_ ?_
  · rw [s_fz]
    simp -implicitDefEqProofs [lst_at (at0 _ _ _)]
    refine ⟨small62_of (by omega) (by omega), ?_⟩
    refine w_shuf (n := n) (q := S.length) (b := b3) (c := c + 405) (ds := st.map encSt) (by omega) (gn _ _) (at0 _ _ _) hb4 (by omega) (by simp; omega) (by simp) (fun d => ?_) fun es b5 pm hb5 => ?_
    · show PopS (fun S2 => ev C G _ [some (.loc n), some (encC x y), some (.loc S.length), u3, u4, u5, u6, some d, none, none, none, none, none, none, none] S2) n S.length
      intro S2 rest b' c' Q' E' h1 h2 hb' hc' ne hl hq'
      have rp := List.length_pos_iff.mpr ne
      simp -implicitDefEqProofs [lst_at h2]
      refine ⟨isLst_at h2, ?_⟩
      refine dr h1 hb' (by omega) (by omega) (by omega) fun r b3 r0 r1 hb3 => ?_
      obtain ⟨j, rfl⟩ := Int.eq_ofNat_of_zero_le r0
      have hj : j < rest.length := by omega
      have F : (S2.set n b3)[S.length]? = some (.lst rest) := by rw [List.getElem?_set_ne (by omega)]; exact h2
      rw [mt_any F (mt_popAt (List.getElem?_eq_getElem hj) (by omega))]
      exact hq' rest[j] (rest.eraseIdx j) b3 (erase_perm hj) hb3
    · rw [un, st0]
      obtain ⟨st2, pm2, rfl⟩ := perm_enc pm
      have hlen : (S.set n b5 ++ SO.lst [] :: J).length = S.length + (J.length + 1) := by simp
      rw [hlen, List.append_assoc]
      refine fz_len (A := S.set n b5) (J1 := (SO.lst [] :: J) ++ [.lst (st2.map encSt)]) (m := S.length + (J.length + 1)) (ds := st2.map encSt) ?_ (by rw [at_]; simp) (by simp) ?_ fun G1 => ?_
      · rfl
      · simp
      exact (hP2 _ _).mpr ⟨b5, st2, G1, u7, hb5.le (by omega), pm2.nodup_iff.mpr nd, fun s hs => si2 s (pm2.mem_iff.mp hs), by rw [pm2.length_eq]; exact sl2, rfl, rfl⟩
  intro ρ S1 hz
  obtain ⟨b5, st2, G1, u7, hb5, nd2, si3, sl3, rfl, rfl⟩ := (hP2 _ _).mp hz
  clear hz hP2 P2 nd si2 sl2 hb4
  have hcut : cutS S true (S.set n b5 ++ G1) = S.set n b5 := cut_set_app hb5.ltS
  obtain ⟨P4, hP4⟩ : ∃ P : Env → Sto → Prop, ∀ ρ S', P ρ S' ↔ ∃ (G2 : List SO), S' = S.set n b5 ++ G2 ∧ ρ = [some (.loc n), some (encC x y), some (.fl (st2.map encSt)), u3, u4, u5, u6, u7, some (.fl ((numsOf false st2).map D.int)), none, none, none, none, none, none] := ⟨_, fun _ _ => Iff.rfl⟩
  refine s_seq P4 ?_ ?_
  · rw [s_fz]
    simp -implicitDefEqProofs [G, gvs]
    refine lc_fm (m := st2) (enc := encSt) (fun s => s.1 == false) (fun s => .int s.2) (by unfold sizeLine; omega) (fun s hs => ?_) ?_
    · obtain ⟨f, z⟩ := s
      cases f <;> simp [encSt]
    have e1 : (st2.filter fun s => s.1 == false).map (fun s => D.int s.2) = (numsOf false st2).map D.int := by unfold numsOf; rw [List.map_map]; rfl
    rw [e1, List.append_assoc]
    refine fz_len (A := S.set n b5) (J1 := G1 ++ [.lst ((numsOf false st2).map D.int)]) (m := (S.set n b5 ++ G1).length) (ds := (numsOf false st2).map D.int) ?_ (by rw [← List.append_assoc]; exact new_get) (by simp) ?_ fun G2 => ?_
    · rfl
    · simp
    exact (hP4 _ _).mpr ⟨G2, rfl, rfl⟩
  intro ρ S1 hz
  obtain ⟨G2, rfl, rfl⟩ := (hP4 _ _).mp hz
  clear hz hP4 P4
  obtain ⟨P5, hP5⟩ : ∃ P : Env → Sto → Prop, ∀ ρ S', P ρ S' ↔ ∃ (G2 : List SO), S' = S.set n b5 ++ G2 ∧ ρ = [some (.loc n), some (encC x y), some (.fl (st2.map encSt)), u3, u4, u5, u6, u7, some (.fl ((numsOf false st2).map D.int)), some (.fl ((numsOf true st2).map D.int)), none, none, none, none, none] := ⟨_, fun _ _ => Iff.rfl⟩
  refine s_seq P5 ?_ ?_
  · rw [s_fz]
    simp -implicitDefEqProofs [G, gvs]
    refine lc_fm (m := st2) (enc := encSt) (fun s => s.1 == true) (fun s => .int s.2) (by unfold sizeLine; omega) (fun s hs => ?_) ?_
    · obtain ⟨f, z⟩ := s
      cases f <;> simp [encSt]
    have e1 : (st2.filter fun s => s.1 == true).map (fun s => D.int s.2) = (numsOf true st2).map D.int := by unfold numsOf; rw [List.map_map]; rfl
    rw [e1, List.append_assoc]
    refine fz_len (A := S.set n b5) (J1 := G2 ++ [.lst ((numsOf true st2).map D.int)]) (m := (S.set n b5 ++ G2).length) (ds := (numsOf true st2).map D.int) ?_ (by rw [← List.append_assoc]; exact new_get) (by simp) ?_ fun G2 => ?_
    · rfl
    · simp
    exact (hP5 _ _).mpr ⟨G2, rfl, rfl⟩
  intro ρ S1 hz
  obtain ⟨G3, rfl, rfl⟩ := (hP5 _ _).mp hz
  clear hz hP5 P5 hcut
  have hcut : cutS S true (S.set n b5 ++ G3) = S.set n b5 := cut_set_app hb5.ltS
  have ix0 : ∀ S, ixD (encC x y) (.int 0) S = some (encR x) := fun _ => rfl
  have ix1 : ∀ S, ixD (encC x y) (.int 1) S = some (encR y) := fun _ => rfl
  have bg := turned_big t.big nd2 (by have := t.la; omega) (by have := t.lb; omega)
  have bk := rv_back t.town nd2 nd2 fun s => Iff.rfl
  generalize S.set n b5 ++ G3 = T at *
  refine s_seq (fun ρ S' => S' = T ∧ ρ = [some (.loc n), some (encC x y), some (.fl (st2.map encSt)), u3, u4, u5, u6, u7, some (.fl ((numsOf false st2).map D.int)), some (.fl ((numsOf true st2).map D.int)), some (encC (rvA st2 x) (rvB st2 y)), none, none, none, none]) ?_ ?_
  · simp -implicitDefEqProofs [ix0, ix1]
    refine du t nd2 si3 (by omega) ?_
    refine dv t nd2 si3 (by omega) ?_
    exact ⟨rfl, rfl⟩
  rintro ρ S1 ⟨rfl, rfl⟩
  refine s_seq (fun ρ S' => S' = S1 ∧ ρ = [some (.loc n), some (encC x y), some (.fl (st2.map encSt)), u3, u4, u5, u6, u7, some (.fl ((numsOf false st2).map D.int)), some (.fl ((numsOf true st2).map D.int)), some (encC (rvA st2 x) (rvB st2 y)), some (encC (rvA st2 x) (rvB st2 y)), none, none, none]) ?_ ?_
  · simp -implicitDefEqProofs
    rw [rf t.big nd2 (by omega) si3]
    exact ⟨rfl, rfl⟩
  rintro ρ S2 ⟨rfl, rfl⟩
  have eqt : ∀ {a b : Runs} {S : Sto}, Big a b → cmpD .Eq (encC a b) (encC a b) S = some true := fun bv => eq_cl (n := 3) (m := 3) (cl_city bv) (cl_city bv) (by omega) (by omega) (by simp)
  simp -implicitDefEqProofs
  rw [eqt bg.1]
  simp -implicitDefEqProofs
  refine ic bg.1 ?_
  simp -implicitDefEqProofs
  rw [rf bg.1 nd2 (by omega) (fun s hs => ?_), bk.1, bk.2, eqt t.big]
  · simp -implicitDefEqProofs
    rw [hcut]
    exact hQ b5 (hb5.le (by omega))
  · have := si3 s hs
    unfold stIn at this ⊢
    rw [show total (if s.1 = true then rvB st2 y else rvA st2 x) = total (if s.1 = true then y else x) by split; exact bg.2.2.tot; exact bg.2.1.tot]
    exact this
end
end CC
namespace CC
open PySem PySem.Spec PyProof.Rows L2
def altR (A B : Str) : Nat → Nat → Runs
  | _, 0 => []
  | s, m + 1 => (if s % 2 = 0 then A else B, 1) :: altR A B (s + 1) m
theorem alt_tot {A B : Str} : ∀ {s m : Nat}, total (altR A B s m) = m
  | _, 0 => rfl
  | s, m + 1 => by
    rw [altR, total_cons, alt_tot]
    show (1 : Int) + m = _
    omega
theorem alt_pos {A B : Str} : ∀ {s m : Nat}, ∀ p ∈ altR A B s m, 1 ≤ p.2
  | _, 0, _, h => nomatch h
  | s, m + 1, p, h => by
    rw [altR] at h
    rcases List.mem_cons.mp h with rfl | h
    · exact Int.le_refl _
    · exact alt_pos p h
theorem alt_sgn {A B : Str} : ∀ {s m : Nat} {z : Int}, 0 ≤ z → z < m → signL (altR A B s m) z = if (s + z) % 2 = 0 then A else B
  | _, 0, z, h0, h1 => by omega
  | s, m + 1, z, h0, h1 => by
    rw [altR, sg_cons]
    by_cases c : z < 1
    · have e : z = 0 := by omega
      subst e
      rw [if_pos c]
      by_cases c2 : s % 2 = 0
      · rw [if_pos c2, if_pos (by omega)]
      · rw [if_neg c2, if_neg (by omega)]
    · rw [if_neg c, alt_sgn (by omega) (by omega), show ((s + 1 : Nat) : Int) + (z - 1) = s + z by omega]
theorem alt_asc {A B : Str} (hne : A ≠ B) : ∀ {s m : Nat}, ascR (altR A B s m) = true
  | _, 0 => rfl
  | _, 1 => rfl
  | s, m + 2 => by
    have ih := alt_asc hne (s := s + 1) (m := m + 1)
    rw [altR] at ih
    rw [altR, altR, ascR_cons, ih, Bool.and_true, bne_iff_ne]
    show (if s % 2 = 0 then A else B) ≠ (if (s + 1) % 2 = 0 then A else B)
    by_cases c2 : s % 2 = 0
    · rw [if_pos c2, if_neg (by omega)]
      exact hne
    · rw [if_neg c2, if_pos (by omega)]
      exact fun e => hne e.symm
theorem alt_enc {A B : Str} : ∀ {s m : Nat}, (altR A B s m).map encP = (List.range' s m).map fun i => D.tup [.str (if i % 2 = 0 then A else B), .int 1]
  | _, 0 => rfl
  | s, m + 1 => by
    rw [altR, List.map_cons, alt_enc, List.range'_succ, List.map_cons]
    rfl
theorem turn_alt {A B : Str} (hA : opp A = B) (hB : opp B = A) (hne : A ≠ B) {m : Nat} (m0 : 0 < m) {ns : List Int} (asc : Asc ns) (hn : ∀ z, z ∈ ns ↔ 0 ≤ z ∧ z < m ∧ z % 2 = 0) : turnR [(A, (m : Int))] ns = altR B A 0 m := by
  have o : okR A B [(A, (m : Int))] = true := by
    unfold okR
    simp [ascR]
    omega
  have t := turn_ok o asc hA hB
  have e0 : total [(A, (m : Int))] = m := by show (m : Int) + 0 = _; omega
  refine runs_eq (ok_pos t.ok) alt_pos (ok_asc t.ok) (alt_asc fun e => hne e.symm) (by rw [t.tot, alt_tot, e0]) fun z z0 z1 => ?_
  rw [t.tot, e0] at z1
  rw [t.sgn z z0 (by rw [e0]; exact z1), alt_sgn z0 z1]
  unfold flipAt
  have e1 : signL [(A, (m : Int))] z = A := by rw [sg_cons, if_pos z1]
  rw [e1, hA]
  by_cases c : z % 2 = 0
  · rw [if_pos ((hn z).mpr ⟨z0, z1, c⟩), if_pos (by simpa using c)]
  · rw [if_neg fun h => c ((hn z).mp h).2.2, if_neg (by simpa using c)]
theorem turn_none {A B : Str} (hA : opp A = B) (hB : opp B = A) {l : Runs} (o : okR A B l = true) : turnR l [] = l := by
  have t := turn_ok o (ns := []) (by simp [Asc]) hA hB
  refine runs_eq (ok_pos t.ok) (ok_pos o) (ok_asc t.ok) (ok_asc o) t.tot fun y y0 y1 => ?_
  rw [t.tot] at y1
  rw [t.sgn y y0 y1]
  unfold flipAt
  rw [if_neg (by simp)]
def evs2 (f : Bool) (m : Nat) : List (Bool × Int) := (List.range m).map fun i : Nat => (f, 2 * (i : Int))
theorem evs2_mem {f g : Bool} {m : Nat} {z : Int} : (g, z) ∈ evs2 f m ↔ g = f ∧ 0 ≤ z ∧ z < 2 * m ∧ z % 2 = 0 := by
  unfold evs2
  rw [List.mem_map]
  constructor
  · rintro ⟨i, hi, e⟩
    rw [List.mem_range] at hi
    cases e
    exact ⟨rfl, by omega, by omega, by omega⟩
  · rintro ⟨rfl, h0, h1, h2⟩
    exact ⟨(z / 2).toNat, List.mem_range.mpr (by omega), by rw [Prod.mk.injEq]; exact ⟨rfl, by omega⟩⟩
theorem evs2_nodup {f : Bool} {m : Nat} : (evs2 f m).Nodup := by
  unfold evs2
  exact List.Pairwise.map _ (fun x y h e => h (by have := congrArg Prod.snd e; simp only at this; omega)) List.nodup_range
theorem evs2_len {f : Bool} {m : Nat} : (evs2 f m).length = m := by unfold evs2; simp
theorem evs2_turn {A B : Str} (hA : opp A = B) (hB : opp B = A) (hne : A ≠ B) {f : Bool} {m : Nat} (m0 : 0 < m) {M : Int} (hM : M = 2 * m) : turnR [(A, M)] (isort (numsOf f (evs2 f m))) = altR B A 0 (2 * m) := by
  subst hM
  refine (turn_alt hA hB hne (m := 2 * m) (by omega) (isort_asc' (nums_nodup evs2_nodup)) fun z => ?_)
  rw [(isort_perm').mem_iff, nums_mem, evs2_mem]
  push_cast
  exact ⟨fun h => h.2, fun h => ⟨rfl, h⟩⟩
theorem evs2_other {f g : Bool} (h : g ≠ f) {m : Nat} : numsOf g (evs2 f m) = [] := by
  refine List.eq_nil_iff_forall_not_mem.mpr fun z hz => ?_
  rw [nums_mem, evs2_mem] at hz
  exact h hz.1
end CC
namespace CC
open PySem PySem.Spec PyProof.Rows L2
section
variable {k : Nat} {v : D} {S : Sto} {Q : D → Sto → Prop} {E : Nat → List D → Sto → Prop}
theorem e_street_at {a b : Runs} {f : Bool} {n : Int} (t : Town a b) (h0 : 0 ≤ n) (h1 : n < total (if f = true then b else a)) : WR (CF (k + 6) f_street_direction [encC a b, .tup [.str (wdS f), .int n]] S) Q E = Q (.str (signL (if f = true then b else a) n)) S := by
  have ct : ∀ Q E, WR (CF (k + 5) f_check_city [encC a b] S) Q E = Q .non S := fun Q E => e_check_town (k := k) t
  have io : ∀ Q E, WR (CF (k + 4) f_is_street [encC a b, encSt (f, n)] S) Q E = Q (.bl true) S := fun Q E => e_is_street_ok (k := k + 2) t.la t.lb (by cases f <;> exact ⟨h0, h1⟩)
  have cs : ∀ Q E, WR (CF (k + 5) f_check_street [encC a b, encSt (f, n)] S) Q E = Q .non S := fun Q E => by
    rw [cf_run (fd := fd_check_street) rfl rfl]
    simp [fd_check_street, bd_check_street, startE, ↓io]
  have es : D.tup [.str (wdS f), .int n] = encSt (f, n) := rfl
  rw [es, cf_run (fd := fd_street_direction) rfl rfl]
  have dr : ∀ Q E, WR (CF (k + 5) f_direction_of [encC a b, encSt (f, n)] S) Q E = Q (.str (signL (if f = true then b else a) n)) S := fun Q E => by
    cases f
    · have := e_dir_row (k := k + 3) (S := S) (Q := Q) (E := E) (a := a) (b := b) h0 h1
      rw [signAt_eq] at this
      exact this
    · have := e_dir_col (k := k + 3) (S := S) (Q := Q) (E := E) (a := a) (b := b) h0 h1
      rw [signAt_eq] at this
      exact this
  simp [fd_street_direction, bd_street_direction, startE, ↓ct, ↓cs, ↓dr]
theorem w_many_right {f : Bool} (hQ : Q (.bl true) S) : WR (CF (k + 7) f__law_many_right [.int (if f = true then 1 else 0)] S) Q E := by
  have ic : ∀ {a b : Runs} {S : Sto} {Q E}, Big a b → WR (CF (k + 6) f_is_city [encC a b] S) Q E = Q (.bl true) S := fun {a b S Q E} tb => by
    rw [e_is_city (k := k + 2) tb.t.nice, tb.t.city]
  have rf : ∀ {a b : Runs} {st : List (Bool × Int)} {S : Sto} {Q E}, Big a b → st.Nodup → st.length < 300 → (∀ s ∈ st, stIn a b s) → WR (CF (k + 6) f_reversed_city [encC a b, .fl (st.map encSt)] S) Q E = Q (encC (rvA st a) (rvB st b)) S := fun h1 h2 h3 h4 => e_reversed_okG (k := k) h1 h2 h3 h4
  have gs : ∀ {a b : Runs} {S : Sto} {Q E}, Town a b → WR (CF (k + 6) f_grid_size [encC a b] S) Q E = Q (.tup [.int (total b), .int (total a)]) S := fun t => e_grid_size (k := k) t
  have sd : ∀ {a b : Runs} {n : Int} {S : Sto} {Q E}, Town a b → 0 ≤ n → n < total (if f = true then b else a) → WR (CF (k + 6) f_street_direction [encC a b, .tup [.str (wdS f), .int n]] S) Q E = Q (.str (signL (if f = true then b else a) n)) S := fun t h0 h1 => e_street_at (k := k) t h0 h1
  obtain ⟨ax, hax⟩ : ∃ ax : Int, ax = if f = true then 1 else 0 := ⟨_, rfl⟩
  obtain ⟨pr, hpr⟩ : ∃ pr : Str, pr = if f = true then "NS" else "EW" := ⟨_, rfl⟩
  obtain ⟨P0, hP0⟩ : ∃ P : Str, P = if f = true then "N" else "E" := ⟨_, rfl⟩
  obtain ⟨P1, hP1⟩ : ∃ P : Str, P = if f = true then "S" else "W" := ⟨_, rfl⟩
  obtain ⟨Q0, hQ0⟩ : ∃ P : Str, P = if f = true then "E" else "N" := ⟨_, rfl⟩
  have i1 : ∀ S, ixD (.fl [.str "row", .str "column"]) (.int ax) S = some (.str (wdS f)) := fun S => by rw [hax]; cases f <;> rfl
  have i2 : ∀ S, ixD (.fl [.str "EW", .str "NS"]) (.int ax) S = some (.str pr) := fun S => by rw [hax, hpr]; cases f <;> rfl
  have i3 : ∀ S, ixD (.fl [.str "NS", .str "EW"]) (.int ax) S = some (.str (if f = true then "EW" else "NS")) := fun S => by rw [hax]; cases f <;> rfl
  have i4 : ∀ S, ixD (.str (if f = true then "EW" else "NS")) (.int 0) S = some (.str Q0) := fun S => by rw [hQ0]; cases f <;> rfl
  have i5 : ∀ S, ixD (.str pr) (.int 0) S = some (.str P0) := fun S => by rw [hpr, hP0]; cases f <;> rfl
  have i6 : ∀ S, ixD (.str pr) (.int 1) S = some (.str P1) := fun S => by rw [hpr, hP1]; cases f <;> rfl
  have i7 : ∀ (u w : D) S, ixD (.fl [u, w]) (.int ax) S = some (if f = true then w else u) := fun u w S => by rw [hax]; cases f <;> rfl
  have i8 : ∀ a b S, ixD (encC a b) (.int ax) S = some (encR (if f = true then b else a)) := fun a b S => by rw [hax]; cases f <;> rfl
  have i9 : ∀ a b S, ixD (encC a b) (.int (1 - ax)) S = some (encR (if f = true then a else b)) := fun a b S => by rw [hax]; cases f <;> rfl
  have o1 : opp P0 = P1 := by rw [hP0, hP1]; cases f <;> decide
  have o2 : opp P1 = P0 := by rw [hP0, hP1]; cases f <;> decide
  have o3 : P0 ≠ P1 := by rw [hP0, hP1]; cases f <;> decide
  rw [← hax]
  rw [cf_run (fd := fd__law_many_right) rfl rfl]
  show Ws (run W (CF (k + 6)) G bd__law_many_right [some (.int ax), none, none, none, none, none, none] S) _
  unfold bd__law_many_right
  generalize CF (k + 6) = C at *
  obtain ⟨z2, hz2⟩ : ∃ z : Int, z = 200 := ⟨_, rfl⟩
  obtain ⟨z4, hz4⟩ : ∃ z : Int, z = 400 := ⟨_, rfl⟩
  rw [← hz2, ← hz4]
  have r2 : small62 z2 = true := by rw [hz2]; decide
  have r4 : small62 z4 = true := by rw [hz4]; decide
  have n2 : z2.toNat = 200 := by rw [hz2]; rfl
  have n4 : z4.toNat = 400 := by rw [hz4]; rfl
  obtain ⟨m2, hm2⟩ : ∃ m, m = z2.toNat := ⟨_, rfl⟩
  obtain ⟨m4, hm4⟩ : ∃ m, m = z4.toNat := ⟨_, rfl⟩
  have mm : m4 = 2 * m2 := by omega
  have mz : z4 = 2 * m2 := by omega
  have m20 : 0 < m2 := by omega
  have m21 : m2 ≤ 250 := by omega
  obtain ⟨a0, ha0⟩ : ∃ a : Runs, a = if f = true then [(Q0, 2)] else [(P0, z4)] := ⟨_, rfl⟩
  obtain ⟨b0, hb0⟩ : ∃ a : Runs, a = if f = true then [(P0, z4)] else [(Q0, 2)] := ⟨_, rfl⟩
  refine s_seq (fun ρ S1 => S1 = S ∧ ρ = [some (.int ax), some (.str (wdS f)), some (.str pr), none, none, none, none]) ?_ ?_
  · simp -implicitDefEqProofs [i1, i2]
  rintro ρ S1 ⟨rfl, rfl⟩
  refine s_seq (fun ρ S2 => S2 = S1 ∧ ρ = [some (.int ax), some (.str (wdS f)), some (.str pr), some (.fl [encR [(P0, z4)], encR [(Q0, 2)]]), none, none, none]) ?_ ?_
  · simp -implicitDefEqProofs [i3, i4, i5]
    exact ⟨rfl, rfl⟩
  rintro ρ S2 ⟨rfl, rfl⟩
  refine s_seq (fun ρ S3 => S3 = S2 ∧ ρ = [some (.int ax), some (.str (wdS f)), some (.str pr), some (encC a0 b0), none, none, none]) ?_ ?_
  · have i7 : ∀ u w, ixD (.fl [.fl u, .fl w]) (.int ax) S2 = some (.fl (if f = true then w else u)) := fun u w => by rw [hax]; cases f <;> rfl
    have l1 : ∀ j, D.lt j (encR [(P0, z4)]) = true := fun j => by simp [encR, encP]
    have l2 : ∀ j, D.lt j (encR [(Q0, 2)]) = true := fun j => by simp [encR, encP]
    have fin : D.tup (if f = true then [encR [(Q0, 2)], encR [(P0, z4)]] else [encR [(P0, z4)], encR [(Q0, 2)]]) = encC a0 b0 := by rw [ha0, hb0]; cases f <;> rfl
    generalize encR [(P0, z4)] = d1 at *
    generalize encR [(Q0, 2)] = d2 at *
    simp -implicitDefEqProofs [revD]
    rw [fr_new (by simp [l1, l2]), fr_new (by simp [l1, l2]), i7]
    simp -implicitDefEqProofs
    exact fin
  rintro ρ S3 ⟨rfl, rfl⟩
  have tA : total [(P0, z4)] = z4 := by show z4 + 0 = _; omega
  have tB : total [(Q0, (2 : Int))] = 2 := rfl
  have oA : ∀ {A B : Str}, (P0 = A ∨ P0 = B) → okR A B [(P0, z4)] = true := fun h => by
    unfold okR
    rcases h with rfl | rfl <;> simp [ascR] <;> omega
  have oB : ∀ {A B : Str}, (Q0 = A ∨ Q0 = B) → okR A B [(Q0, (2 : Int))] = true := fun h => by
    unfold okR
    rcases h with rfl | rfl <;> simp [ascR]
  have bg : Big a0 b0 := by
    rw [ha0, hb0]
    cases f
    · refine ⟨⟨oA (.inl hP0), oB (.inl hQ0), ?_, ?_⟩, ?_, ?_, ?_, ?_⟩
      · exact (by unfold sizeLine; decide : 1 ≤ sizeLine)
      · exact (by unfold sizeLine; decide : 1 ≤ sizeLine)
      · exact (by decide : 1 ≤ 1000)
      · exact (by decide : 1 ≤ 1000)
      · show total [(P0, z4)] < _
        rw [tA]; omega
      · show total [(Q0, (2 : Int))] < _
        rw [tB]; omega
    · refine ⟨⟨oB (.inl hQ0), oA (.inl hP0), ?_, ?_⟩, ?_, ?_, ?_, ?_⟩
      · exact (by unfold sizeLine; decide : 1 ≤ sizeLine)
      · exact (by unfold sizeLine; decide : 1 ≤ sizeLine)
      · exact (by decide : 1 ≤ 1000)
      · exact (by decide : 1 ≤ 1000)
      · show total [(Q0, (2 : Int))] < _
        rw [tB]; omega
      · show total [(P0, z4)] < _
        rw [tA]; omega
  have si : ∀ s ∈ evs2 f m2, stIn a0 b0 s := fun s hs => by
    obtain ⟨g, z⟩ := s
    rw [evs2_mem] at hs
    obtain ⟨rfl, h0, h1, _⟩ := hs
    refine ⟨h0, ?_⟩
    show z < total (if g = true then b0 else a0)
    rw [ha0, hb0]
    cases g
    · show z < total [(P0, z4)]
      rw [tA]; omega
    · show z < total [(P0, z4)]
      rw [tA]; omega
  have nd : (evs2 f m2).Nodup := evs2_nodup
  have ln : (evs2 f m2).length < 300 := by rw [evs2_len]; omega
  obtain ⟨a1, ha1⟩ : ∃ a : Runs, a = if f = true then [(Q0, 2)] else altR P1 P0 0 m4 := ⟨_, rfl⟩
  obtain ⟨b1, hb1⟩ : ∃ a : Runs, a = if f = true then altR P1 P0 0 m4 else [(Q0, 2)] := ⟨_, rfl⟩
  have tr := evs2_turn (f := f) o1 o2 o3 m20 mz
  rw [← mm] at tr
  have eA : rvA (evs2 f m2) a0 = a1 := by
    unfold rvA
    rw [ha0, ha1]
    cases f
    · exact tr
    · show turnR [(Q0, 2)] (isort (numsOf false (evs2 true m2))) = [(Q0, 2)]
      rw [evs2_other (by decide)]
      exact turn_none (A := "E") (B := "W") (by decide) (by decide) (oB (.inl hQ0))
  have eB : rvB (evs2 f m2) b0 = b1 := by
    unfold rvB
    rw [hb0, hb1]
    cases f
    · show turnR [(Q0, 2)] (isort (numsOf true (evs2 false m2))) = [(Q0, 2)]
      rw [evs2_other (by decide)]
      exact turn_none (A := "N") (B := "S") (by decide) (by decide) (oB (.inl hQ0))
    · exact tr
  have ev : ∀ j, ltL j ((evs2 f m2).map encSt) = true := fun j => ltL_map' fun s => by simp [encSt]
  refine s_seq (fun ρ S4 => ∃ G1, S4 = S3 ++ G1 ∧ ρ = [some (.int ax), some (.str (wdS f)), some (.str pr), some (encC a0 b0), some (.fl ((evs2 f m2).map encSt)), none, none]) ?_ ?_
  · rw [s_fz]
    simp -implicitDefEqProofs [r2]
    rw [← hm2]
    refine lc_m (m := List.range m2) (enc := fun i : Nat => D.int (0 + (i : Int))) (fun i : Nat => encSt (f, 2 * (i : Int))) (by rw [List.length_range]; unfold sizeLine; omega) (fun i hi => ?_) ?_
    · have hi2 := List.mem_range.mp hi
      simp -implicitDefEqProofs
      exact ⟨mulOk_of (k := 10) (l := 10) (by decide) (by decide) (by decide) (by omega) (by omega) (by decide) (by decide), rfl⟩
    · have e1 : (List.range m2).map (fun i : Nat => encSt (f, 2 * (i : Int))) = (evs2 f m2).map encSt := by unfold evs2; rw [List.map_map]; rfl
      rw [e1]
      refine fz_any0 (J := [.lst ((evs2 f m2).map encSt)]) (m := S3.length) rfl new_get (Nat.le_refl _) fun G1 => ?_
      exact ⟨⟨G1, rfl⟩, rfl⟩
  rintro ρ S4 ⟨G1, rfl, rfl⟩
  obtain ⟨T, hT⟩ : ∃ T, T = S3 ++ G1 := ⟨_, rfl⟩
  have hcut : cutS S3 true T = S3 := by rw [hT]; exact cut_app
  rw [← hT]
  clear hT
  refine s_seq (fun ρ S4 => S4 = T ∧ ρ = [some (.int ax), some (.str (wdS f)), some (.str pr), some (encC a0 b0), some (.fl ((evs2 f m2).map encSt)), some (encC a1 b1), none]) ?_ ?_
  · simp -implicitDefEqProofs
    rw [rf bg nd ln si, eA, eB]
    exact ⟨rfl, rfl⟩
  rintro ρ S4 ⟨rfl, rfl⟩
  have tb := turned_big bg nd (by rw [evs2_len, ha0]; split <;> exact (by show 1 + 2 * m2 ≤ 1000; omega)) (by rw [evs2_len, hb0]; split <;> exact (by show 1 + 2 * m2 ≤ 1000; omega))
  have bk := rv_back bg.t nd (m := (evs2 f m2).reverse) ((List.reverse_perm _).nodup_iff.mpr nd) fun s => List.mem_reverse
  rw [eA, eB] at tb bk
  have tt : total (if f = true then b1 else a1) = z4 ∧ total (if f = true then a1 else b1) = 2 := by
    rw [ha1, hb1]
    cases f
    · exact ⟨by show total (altR P1 P0 0 m4) = _; rw [alt_tot]; omega, rfl⟩
    · exact ⟨by show total (altR P1 P0 0 m4) = _; rw [alt_tot]; omega, rfl⟩
  have sg : ∀ z, 0 ≤ z → z < z4 → signL (if f = true then b1 else a1) z = if z % 2 = 0 then P1 else P0 := fun z h0 h1 => by
    have e : (if f = true then b1 else a1) = altR P1 P0 0 m4 := by rw [ha1, hb1]; cases f <;> rfl
    rw [e, alt_sgn h0 (by omega)]
    simp
  have cl2 : ∀ l : Runs, (∀ p ∈ l, PyData.strOk p.1 = true) → cl 2 (encR l) = true := fun l hl => by
    show (l.map encP).all (cl 1) = true
    rw [List.all_eq_true]
    intro d hd
    obtain ⟨p, hp, rfl⟩ := List.mem_map.mp hd
    show ([D.str p.1, .int p.2].all (cl 0)) = true
    simp only [List.all_cons, List.all_nil, Bool.and_true, Bool.and_eq_true]
    exact ⟨hl p hp, rfl⟩
  have clb := cl_pts (A := "E") (B := "W") (by decide +kernel) (by decide +kernel) tb.1.t.oa
  have clc := cl_pts (A := "N") (B := "S") (by decide +kernel) (by decide +kernel) tb.1.t.ob
  have ne0 : ∀ S, cmpD .NotEq (encR (if f = true then b1 else a1)) (encR (altR P1 P0 0 m4)) S = some false := fun S => by
    have e : (if f = true then b1 else a1) = altR P1 P0 0 m4 := by rw [ha1, hb1]; cases f <;> rfl
    have hc : cl 2 (encR (altR P1 P0 0 m4)) = true := by
      rw [← e]
      cases f
      · exact clb
      · exact clc
    rw [e]
    exact ne_cl (n := 2) (m := 2) hc hc (by omega) (by omega) (by simp)
  have ne1 : ∀ S, cmpD .NotEq (encR (if f = true then a1 else b1)) (encR (if f = true then a0 else b0)) S = some false := fun S => by
    have e : (if f = true then a1 else b1) = (if f = true then a0 else b0) := by rw [ha1, hb1, ha0, hb0]; cases f <;> rfl
    have hc : cl 2 (encR (if f = true then a1 else b1)) = true := by
      cases f
      · exact clc
      · exact clb
    rw [← e]
    exact ne_cl (n := 2) (m := 2) hc hc (by omega) (by omega) (by simp)
  clear clb clc cl2
  refine s_seq (fun ρ S5 => S5 = S4 ∧ ρ = [some (.int ax), some (.str (wdS f)), some (.str pr), some (encC a0 b0), some (.fl ((evs2 f m2).map encSt)), some (encC a1 b1), none]) ?_ ?_
  · simp -implicitDefEqProofs [i8, i9, r4]
    rw [← hm4]
    refine lc_m (m := List.range m4) (enc := fun i : Nat => D.int (0 + (i : Int))) (fun i : Nat => D.tup [.str (if i % 2 = 0 then P1 else P0), .int 1]) (by rw [List.length_range]; unfold sizeLine; omega) (fun i hi => ?_) ?_
    · have i0 : ∀ S, ixD (.str pr) (.int (1 - (i : Int) % 2)) S = some (.str (if i % 2 = 0 then P1 else P0)) := fun S => by
        by_cases c : i % 2 = 0
        · rw [if_pos c, show (1 : Int) - (i : Int) % 2 = 1 by omega, i6]
        · rw [if_neg c, show (1 : Int) - (i : Int) % 2 = 0 by omega, i5]
      simp -implicitDefEqProofs
      rw [i0]
    · have e1 : D.tup ((List.range m4).map fun i : Nat => D.tup [.str (if i % 2 = 0 then P1 else P0), .int 1]) = encR (altR P1 P0 0 m4) := by
        show _ = D.tup ((altR P1 P0 0 m4).map encP)
        rw [alt_enc, List.range_eq_range']
      have lt9 : ∀ j, ltL j ((List.range m4).map fun i : Nat => D.tup [.str (if i % 2 = 0 then P1 else P0), .int 1]) = true := fun j => ltL_map' fun _ => by simp
      rw [fr_new (lt9 _)]
      simp -implicitDefEqProofs
      rw [e1, ne0]
      simp -implicitDefEqProofs [ne1]
  rintro ρ S5 ⟨rfl, rfl⟩
  refine s_seq (fun ρ S6 => S6 = S5 ∧ ρ = [some (.int ax), some (.str (wdS f)), some (.str pr), some (encC a0 b0), some (.fl ((evs2 f m2).map encSt)), some (encC a1 b1), none]) ?_ ?_
  · simp -implicitDefEqProofs
    rw [ic tb.1]
    simp -implicitDefEqProofs
    rw [gs tb.1.t]
    simp -implicitDefEqProofs
    have at2 : atI [D.tup [.int 2, .int z4], .tup [.int z4, .int 2]] ax = some (.tup [.int (total b1), .int (total a1)]) := by
      rw [hax]
      cases f
      · have h1 : total a1 = z4 := tt.1
        have h2 : total b1 = 2 := tt.2
        rw [h1, h2]
        rfl
      · have h1 : total b1 = z4 := tt.1
        have h2 : total a1 = 2 := tt.2
        rw [h1, h2]
        rfl
    have ne2 : cmpD .NotEq (D.tup [.int (total b1), .int (total a1)]) (D.tup [.int (total b1), .int (total a1)]) S5 = some false := ne_cl (n := 2) (m := 2) rfl rfl (by omega) (by omega) (by simp)
    rw [at2]
    simp only [ne2]
    simp -implicitDefEqProofs
  rintro ρ S6 ⟨rfl, rfl⟩
  refine s_seq (fun ρ S7 => S7 = S6 ∧ ρ = [some (.int ax), some (.str (wdS f)), some (.str pr), some (encC a0 b0), some (.fl ((evs2 f m2).map encSt)), some (encC a1 b1), none]) ?_ ?_
  · simp -implicitDefEqProofs
    rw [sd tb.1.t (by decide) (by rw [tt.1]; omega), sg _ (by decide) (by omega)]
    simp -implicitDefEqProofs [i6]
    rw [sd tb.1.t (by decide) (by rw [tt.1]; omega), sg _ (by decide) (by omega)]
    simp -implicitDefEqProofs [i5]
  rintro ρ S7 ⟨rfl, rfl⟩
  simp -implicitDefEqProofs
  rw [← List.map_reverse, fr_new (ltL_map' fun s => by simp [encSt])]
  rw [rf tb.1 ((List.reverse_perm _).nodup_iff.mpr nd) (by rw [List.length_reverse]; exact ln) (fun s hs => ?_), bk.1, bk.2]
  · have eqt : cmpD .Eq (encC a0 b0) (encC a0 b0) S7 = some true := eq_cl (n := 3) (m := 3) (cl_city bg) (cl_city bg) (by omega) (by omega) (by simp)
    rw [eqt]
    show Q (.bl true) (cutS S3 true S7)
    rw [hcut]
    exact hQ
  · have := si s (List.mem_reverse.mp hs)
    unfold stIn at this ⊢
    rw [show total (if s.1 = true then b1 else a1) = total (if s.1 = true then b0 else a0) by split; exact tb.2.2.tot; exact tb.2.1.tot]
    exact this
end
end CC
namespace CC
open PySem PySem.Spec PyProof.Rows L2
theorem law_thm : ∀ ns : List Int, ns.length ≤ 63 → ∃ S', CF 8 f_law [.loc 0] [.frz (ns.map D.int)] = .ok (.bl true) S' := by
  intro ns hl
  refine law_end ?_
  obtain ⟨F, hF⟩ : ∃ F, F = SO.frz (ns.map D.int) := ⟨_, rfl⟩
  have h0 : ([SO.frz (ns.map D.int)] : Sto)[0]? = some (.frz (ns.map D.int)) := rfl
  rw [cf_run (fd := fd_law) rfl rfl]
  show Ws (run W (CF 7) G bd_law [some (.loc 0), none, none, none, none] [SO.frz (ns.map D.int)]) _
  have ds : ∀ {S : Sto} {i : Nat} {Q E}, S[0]? = some F → i < 1000 → (∀ b, BagOk b 0 → Q (.loc S.length) (S ++ [b])) → WR (CF 7 f__law_source [.loc 0, .int (i : Nat)] S) Q E := fun g hi hq => w_source (k := 6) (by rw [← hF]; exact g) hi hq
  have dr : ∀ {n : Nat} {j c : Int} {b : SO} {S : Sto} {Q E}, S[n]? = some b → BagOk b c → c < 2 ^ 60 → 0 < j → j < 2 ^ 200 → (∀ r b', 0 ≤ r → r < j → BagOk b' (c + 1) → Q (.int r) (S.set n b')) → WR (CF 7 f__law_draw [.loc n, .int j] S) Q E := fun h1 h2 h3 h4 h5 h6 => w_draw (k := 6) h1 h2 h3 h4 h5 h6
  have dt : ∀ {n : Nat} {mo wi c : Int} {b : SO} {S : Sto} {Q E}, S[n]? = some b → BagOk b c → c < 2 ^ 58 → 0 < mo → mo ≤ 20 → 0 < wi → wi ≤ 10 ^ 30 → (∀ x y b', TownB x y → BagOk b' (c + 200) → Q (encC x y) (S.set n b')) → WR (CF 7 f__law_town [.loc n, .int mo, .int wi] S) Q E := fun h1 h2 h3 h4 h5 h6 h7 h8 => w_town (k := 4) h1 h2 h3 h4 h5 h6 h7 h8
  have dm : ∀ {n : Nat} {c : Int} {b : SO} {S : Sto} {Q E}, S[n]? = some b → BagOk b c → c < 2 ^ 56 → (∀ b', BagOk b' (c + 300) → Q (.bl true) (S.set n b')) → WR (CF 7 f__law_small_right [.loc n] S) Q E := fun h1 h2 h3 h4 => w_small_right (k := 0) h1 h2 h3 h4
  have dg : ∀ {n : Nat} {c : Int} {b : SO} {S : Sto} {Q E}, S[n]? = some b → BagOk b c → c < 2 ^ 55 → (∀ b', BagOk b' (c + 1000) → Q (.bl true) (S.set n b')) → WR (CF 7 f__law_large_right [.loc n] S) Q E := fun h1 h2 h3 h4 => w_large_right (k := 0) h1 h2 h3 h4
  have dw : ∀ {n : Nat} {c : Int} {b : SO} {x y : Runs} {S : Sto} {Q E}, TownB x y → S[n]? = some b → BagOk b c → c < 2 ^ 56 → (∀ b', BagOk b' (c + 400) → Q (.bl true) (S.set n b')) → WR (CF 7 f__law_right [.loc n, encC x y] S) Q E := fun h1 h2 h3 h4 h5 => w_right (k := 0) h1 h2 h3 h4 h5
  have dy0 : ∀ {S : Sto} {Q E}, Q (.bl true) S → WR (CF 7 f__law_many_right [.int 0] S) Q E := fun h => w_many_right (k := 0) (f := false) h
  have dy1 : ∀ {S : Sto} {Q E}, Q (.bl true) S → WR (CF 7 f__law_many_right [.int 1] S) Q E := fun h => w_many_right (k := 0) (f := true) h
  have rf : ∀ {a b : Runs} {st : List (Bool × Int)} {S : Sto} {Q E}, Big a b → st.Nodup → st.length < 300 → (∀ s ∈ st, stIn a b s) → WR (CF 7 f_reversed_city [encC a b, .fl (st.map encSt)] S) Q E = Q (encC (rvA st a) (rvB st b)) S := fun h1 h2 h3 h4 => e_reversed_okG (k := 1) h1 h2 h3 h4
  unfold bd_law
  generalize CF 7 = C at *
  have p30 : powOk 10 30 = true := by decide +kernel
  generalize hS0 : [SO.frz (ns.map D.int)] = S0 at *
  obtain ⟨I, hI⟩ : ∃ I : Nat → Env → Sto → Prop, ∀ i ρ S1, I i ρ S1 ↔ ∃ u1 u2 u3 : Option D, ρ = [some (.loc 0), u1, u2, u3, none] ∧ S1[0]? = some F := ⟨_, fun _ _ _ => Iff.rfl⟩
  refine s_seq (I 0) ?_ ?_
  · simp -implicitDefEqProofs [lst_frz h0]
    have hm : (if (1 : Int) < if (ns.length : Int) < 6 then (ns.length : Int) else 6 then if (ns.length : Int) < 6 then (ns.length : Int) else 6 else 1) ≤ 6 := by
      split <;> split <;> omega
    have hm0 : 0 ≤ (if (1 : Int) < if (ns.length : Int) < 6 then (ns.length : Int) else 6 then if (ns.length : Int) < 6 then (ns.length : Int) else 6 else 1) := by
      split <;> split <;> omega
    generalize (if (1 : Int) < if (ns.length : Int) < 6 then (ns.length : Int) else 6 then if (ns.length : Int) < 6 then (ns.length : Int) else 6 else 1) = m at *
    refine ⟨small62_of (by omega) (by omega), ?_⟩
    refine ws_range I ?_ (fun ρ S1 hz => (hI _ _ _).mpr ((hI _ _ _).mp hz)) ((hI _ _ _).mpr ⟨_, _, _, rfl, by rw [hF]; exact h0⟩)
    clear h0 hF
    intro i ρ S hi hz
    obtain ⟨u1, u2, u3, rfl, h0⟩ := (hI _ _ _).mp hz
    clear hz
    have hS := old_lt h0
    have hSn : S.length ≠ 0 := by omega
    have e0 : ((0 : Int) + (i : Nat)) = (i : Nat) := by omega
    rw [e0]
    simp only [List.set_cons_succ, List.set_cons_zero]
    obtain ⟨P1, hP1⟩ : ∃ P : Env → Sto → Prop, ∀ ρ S1, P ρ S1 ↔ ∃ b, BagOk b 0 ∧ S1 = S ++ [b] ∧ ρ = [some (.loc 0), some (.int (i : Nat)), some (.loc S.length), u3, none] := ⟨_, fun _ _ => Iff.rfl⟩
    refine s_seq P1 ?_ ?_
    · simp -implicitDefEqProofs
      refine ds h0 (by omega) fun b hb => ?_
      exact (hP1 _ _).mpr ⟨b, hb, rfl, rfl⟩
    intro ρ S1 hz
    obtain ⟨b, hb, rfl, rfl⟩ := (hP1 _ _).mp hz
    clear hz hP1 P1
    obtain ⟨n, hn⟩ : ∃ n, n = S.length := ⟨_, rfl⟩
    rw [← hn] at hS hSn
    obtain ⟨iI, hiI⟩ : ∃ z : Int, z = (i : Nat) := ⟨_, rfl⟩
    rw [← hiI]
    clear hiI e0
    obtain ⟨J, hJ⟩ : ∃ J : Nat → Env → Sto → Prop, ∀ j ρ S1, J j ρ S1 ↔ ∃ (b' : SO) (u3 : Option D), S1[n]? = some b' ∧ S1[0]? = some F ∧ BagOk b' (1000 * j) ∧ ρ = [some (.loc 0), some (.int iI), some (.loc n), u3, none] := ⟨_, fun _ _ _ => Iff.rfl⟩
    have J0 : J 0 [some (.loc 0), some (.int iI), some (.loc S.length), u3, none] (S ++ [b]) := (hJ _ _ _).mpr ⟨b, _, by rw [hn]; exact new_get, by rw [List.getElem?_append_left (by omega)]; exact h0, hb.le (by omega), by rw [hn]⟩
    generalize S ++ [b] = T0 at *
    rw [← hn] at J0 ⊢
    clear hn h0 hb b hS
    refine s_seq (J 2) ?_ ?_
    · simp -implicitDefEqProofs
      refine ⟨by decide, ?_⟩
      refine ws_range J ?_ (fun ρ S1 hz => hz) J0
      intro j ρ S1 hj hz
      obtain ⟨b1, v3, g1, k0, hb1, rfl⟩ := (hJ _ _ _).mp hz
      clear hz J0
      have nn : ∀ {S : Sto} {x : SO}, S[0]? = some F → (S.set n x)[0]? = some F := fun {S x} h => by rw [List.getElem?_set_ne (by omega)]; exact h
      simp only [List.set_cons_succ, List.set_cons_zero]
      obtain ⟨w3, hw3⟩ : ∃ w : Option D, w = some (.int (0 + (j : Nat))) := ⟨_, rfl⟩
      rw [← hw3]
      clear hw3
      obtain ⟨P2, hP2⟩ : ∃ P : Env → Sto → Prop, ∀ ρ S', P ρ S' ↔ ∃ b', S'[n]? = some b' ∧ S'[0]? = some F ∧ BagOk b' (1000 * j + 300) ∧ ρ = [some (.loc 0), some (.int iI), some (.loc n), w3, none] := ⟨_, fun _ _ => Iff.rfl⟩
      refine s_seq P2 ?_ ?_
      · simp -implicitDefEqProofs
        refine dm g1 hb1 (by omega) fun b2 hb2 => ?_
        exact ⟨rfl, (hP2 _ _).mpr ⟨b2, set_get g1, nn k0, hb2, rfl⟩⟩
      clear g1 k0
      intro ρ S2 hz
      obtain ⟨b2, g1, k0, hb2, rfl⟩ := (hP2 _ _).mp hz
      clear hz hP2 P2 hb1
      simp -implicitDefEqProofs
      refine dr g1 hb2 (by omega) (by decide) (by decide) fun r b3 r0 r1 hb3 => ?_
      obtain ⟨e, e0, e1, ee⟩ : ∃ e : Int, 0 < e ∧ e ≤ 20 ∧ ∀ S, ixD (.fl [.int 3, .int 20]) (.int r) S = some (.int e) := by
        rcases (by omega : r = 0 ∨ r = 1) with rfl | rfl
        · exact ⟨3, by decide, by decide, fun _ => rfl⟩
        · exact ⟨20, by decide, by decide, fun _ => rfl⟩
      rw [ee]
      simp -implicitDefEqProofs [p30]
      refine dt (set_get g1) hb3 (by omega) e0 e1 (by decide +kernel) (by decide +kernel) fun x y b4 tw hb4 => ?_
      rw [List.set_set]
      refine dw tw (set_get g1) hb4 (by omega) fun b5 hb5 => ?_
      rw [List.set_set]
      try simp -implicitDefEqProofs
      exact (hJ _ _ _).mpr ⟨b5, _, set_get g1, nn k0, hb5.le (by push_cast; omega), rfl⟩
    intro ρ S1 hz
    obtain ⟨b1, v3, g1, k0, hb1, rfl⟩ := (hJ _ _ _).mp hz
    clear hz J0 hJ J
    have nn : ∀ {S : Sto} {x : SO}, S[0]? = some F → (S.set n x)[0]? = some F := fun {S x} h => by rw [List.getElem?_set_ne (by omega)]; exact h
    simp -implicitDefEqProofs
    split
    · refine dg g1 hb1 (by omega) fun b2 hb2 => ?_
      exact ⟨rfl, (hI _ _ _).mpr ⟨_, _, _, rfl, nn k0⟩⟩
    · rename_i c
      exact ⟨c, (hI _ _ _).mpr ⟨_, _, _, rfl, k0⟩⟩
  intro ρ S1 hz
  obtain ⟨u1, u2, u3, rfl, g0⟩ := (hI _ _ _).mp hz
  clear hz hI I h0 hS0 hF g0
  obtain ⟨z4, hz4⟩ : ∃ z : Int, z = 400 := ⟨_, rfl⟩
  rw [← hz4]
  have oA : okR "E" "W" [("E", z4)] = true := by
    unfold okR
    simp [ascR]
    omega
  have oB : okR "N" "S" [("N", (1 : Int))] = true := by decide
  have bg : Big [("E", z4)] [("N", (1 : Int))] := by
    refine ⟨⟨oA, oB, ?_, ?_⟩, ?_, ?_, ?_, ?_⟩
    · exact (by unfold sizeLine; decide : 1 ≤ sizeLine)
    · exact (by unfold sizeLine; decide : 1 ≤ sizeLine)
    · exact (by decide : 1 ≤ 1000)
    · exact (by decide : 1 ≤ 1000)
    · show z4 + 0 < _
      omega
    · show (1 : Int) + 0 < _
      omega
  have rn : ∀ {S : Sto} {Q E}, WR (C f_reversed_city [encC [("E", z4)] [("N", 1)], .fl []] S) Q E = Q (encC [("E", z4)] [("N", 1)]) S := fun {S Q E} => by
    have := rf (S := S) (Q := Q) (E := E) bg (st := []) List.nodup_nil (by decide) (fun _ h => nomatch h)
    rw [show rvA [] [(("E" : Str), z4)] = [(("E" : Str), z4)] from turn_none (A := "E") (B := "W") (by decide) (by decide) oA, show rvB [] [(("N" : Str), (1 : Int))] = [(("N" : Str), 1)] from turn_none (A := "N") (B := "S") (by decide) (by decide) oB] at this
    exact this
  have eqt : ∀ S, cmpD .Eq (encC [("E", z4)] [("N", 1)]) (encC [("E", z4)] [("N", 1)]) S = some true := fun S => eq_cl (n := 3) (m := 3) (cl_city bg) (cl_city bg) (by omega) (by omega) (by simp)
  refine s_seq (fun ρ S2 => S2 = S1 ∧ ρ = [some (.loc 0), u1, u2, u3, some (encC [("E", z4)] [("N", 1)])]) ?_ ?_
  · simp -implicitDefEqProofs
    rfl
  rintro ρ S2 ⟨rfl, rfl⟩
  generalize encC [("E", z4)] [("N", 1)] = d at *
  simp -implicitDefEqProofs
  rw [rn, eqt]
  simp -implicitDefEqProofs
  refine dy0 ?_
  simp -implicitDefEqProofs
  refine dy1 ?_
  rfl
end CC
namespace CC
open PySem PySem.Spec PyProof.Rows L2
abbrev nm_is_integer : List Str := ["value", "low"]
abbrev nm_is_run : List Str := ["value", "directions"]
abbrev nm_are_runs : List Str := ["value", "directions", "one", "other", "run"]
abbrev nm_is_city : List Str := ["value"]
abbrev nm_check_city : List Str := ["city"]
abbrev nm_count_streets : List Str := ["runs", "direction", "count"]
abbrev nm_flipped : List Str := ["direction"]
abbrev nm_joined : List Str := ["runs", "found", "direction", "count"]
abbrev nm_street_run : List Str := ["runs", "number", "first", "direction", "count"]
abbrev nm_is_street : List Str := ["city", "value"]
abbrev nm_check_street : List Str := ["city", "street"]
abbrev nm_grid_size : List Str := ["city"]
abbrev nm_direction_of : List Str := ["city", "street"]
abbrev nm_street_direction : List Str := ["city", "street"]
abbrev nm_turned_runs : List Str := ["runs", "numbers", "found", "first", "direction", "count", "here", "number", "run"]
abbrev nm_turned_city : List Str := ["city", "streets", "rows", "columns", "kind", "number"]
abbrev nm_reversed_city : List Str := ["city", "streets", "street"]
abbrev nm__law_source : List Str := ["_law_script", "_law_k", "_law_cell"]
abbrev nm__law_draw : List Str := ["_law_source_here", "_law_bound", "_law_found", "_law_mixed"]
abbrev nm__law_runs : List Str := ["_law_source_here", "_law_pair", "_law_most", "_law_wide", "_law_at", "_law_found", "_law_k", "_law_count"]
abbrev nm__law_town : List Str := ["_law_source_here", "_law_most", "_law_wide"]
abbrev nm__law_streets : List Str := ["_law_source_here", "_law_pair", "_law_most", "_law_way", "_law_first", "_law_found", "_law_k"]
abbrev nm__law_packed : List Str := ["_law_signs", "_law_found", "_law_sign_here"]
abbrev nm__law_city_of : List Str := ["_law_rows", "_law_columns"]
abbrev nm__law_turned : List Str := ["_law_runs_here", "_law_numbers", "_law_cuts", "_law_start", "_law_sign_here", "_law_many", "_law_ends", "_law_found", "_law_low", "_law_high", "_law_number"]
abbrev nm__law_sign : List Str := ["_law_runs_here", "_law_number", "_law_left", "_law_sign_here", "_law_many"]
abbrev nm__law_some : List Str := ["_law_source_here", "_law_runs_here", "_law_word", "_law_most", "_law_spots", "_law_total", "_law_sign_here", "_law_many", "_law_step", "_law_found", "_law_spot"]
abbrev nm__law_right : List Str := ["_law_source_here", "_law_town_here", "_law_picked", "_law_turn", "_law_before", "_law_high", "_law_wide", "_law_due", "_law_found", "_law_step", "_law_word", "_law_number"]
abbrev nm__law_small_right : List Str := ["_law_source_here", "_law_signs", "_law_town_here", "_law_picked", "_law_word", "_law_number", "_law_line"]
abbrev nm__law_large_right : List Str := ["_law_source_here", "_law_town_here", "_law_picked", "_law_axis", "_law_word", "_law_total", "_law_spare", "_law_step", "_law_high", "_law_wide", "_law_due", "_law_found", "_law_number", "_law_sign_here", "_law_many"]
abbrev nm__law_many_right : List Str := ["_law_axis", "_law_word", "_law_pair", "_law_town_here", "_law_picked", "_law_many", "_law_step"]
abbrev nm_law : List Str := ["_law_script", "_law_k", "_law_source_here", "_law_turn", "_law_town_here"]
theorem sc_is_integer : FnScope nm_is_integer ["value", "low"] (defScope s_is_integer) := ⟨rfl, rfl, rfl, by decide +kernel, rfl, by decide +kernel, by decide +kernel⟩
theorem sc_is_run : FnScope nm_is_run ["value", "directions"] (defScope s_is_run) := ⟨rfl, rfl, rfl, by decide +kernel, rfl, by decide +kernel, by decide +kernel⟩
theorem sc_are_runs : FnScope nm_are_runs ["value", "directions"] (defScope s_are_runs) := ⟨rfl, rfl, rfl, by decide +kernel, rfl, by decide +kernel, by decide +kernel⟩
theorem sc_is_city : FnScope nm_is_city ["value"] (defScope s_is_city) := ⟨rfl, rfl, rfl, by decide +kernel, rfl, by decide +kernel, by decide +kernel⟩
theorem sc_check_city : FnScope nm_check_city ["city"] (defScope s_check_city) := ⟨rfl, rfl, rfl, by decide +kernel, rfl, by decide +kernel, by decide +kernel⟩
theorem sc_count_streets : FnScope nm_count_streets ["runs"] (defScope s_count_streets) := ⟨rfl, rfl, rfl, by decide +kernel, rfl, by decide +kernel, by decide +kernel⟩
theorem sc_flipped : FnScope nm_flipped ["direction"] (defScope s_flipped) := ⟨rfl, rfl, rfl, by decide +kernel, rfl, by decide +kernel, by decide +kernel⟩
theorem sc_joined : FnScope nm_joined ["runs"] (defScope s_joined) := ⟨rfl, rfl, rfl, by decide +kernel, rfl, by decide +kernel, by decide +kernel⟩
theorem sc_street_run : FnScope nm_street_run ["runs", "number"] (defScope s_street_run) := ⟨rfl, rfl, rfl, by decide +kernel, rfl, by decide +kernel, by decide +kernel⟩
theorem sc_is_street : FnScope nm_is_street ["city", "value"] (defScope s_is_street) := ⟨rfl, rfl, rfl, by decide +kernel, rfl, by decide +kernel, by decide +kernel⟩
theorem sc_check_street : FnScope nm_check_street ["city", "street"] (defScope s_check_street) := ⟨rfl, rfl, rfl, by decide +kernel, rfl, by decide +kernel, by decide +kernel⟩
theorem sc_grid_size : FnScope nm_grid_size ["city"] (defScope s_grid_size) := ⟨rfl, rfl, rfl, by decide +kernel, rfl, by decide +kernel, by decide +kernel⟩
theorem sc_direction_of : FnScope nm_direction_of ["city", "street"] (defScope s_direction_of) := ⟨rfl, rfl, rfl, by decide +kernel, rfl, by decide +kernel, by decide +kernel⟩
theorem sc_street_direction : FnScope nm_street_direction ["city", "street"] (defScope s_street_direction) := ⟨rfl, rfl, rfl, by decide +kernel, rfl, by decide +kernel, by decide +kernel⟩
theorem sc_turned_runs : FnScope nm_turned_runs ["runs", "numbers"] (defScope s_turned_runs) := ⟨rfl, rfl, rfl, by decide +kernel, rfl, by decide +kernel, by decide +kernel⟩
theorem sc_turned_city : FnScope nm_turned_city ["city", "streets"] (defScope s_turned_city) := ⟨rfl, rfl, rfl, by decide +kernel, rfl, by decide +kernel, by decide +kernel⟩
theorem sc_reversed_city : FnScope nm_reversed_city ["city", "streets"] (defScope s_reversed_city) := ⟨rfl, rfl, rfl, by decide +kernel, rfl, by decide +kernel, by decide +kernel⟩
theorem sc__law_source : FnScope nm__law_source ["_law_script", "_law_k"] (defScope s__law_source) := ⟨rfl, rfl, rfl, by decide +kernel, rfl, by decide +kernel, by decide +kernel⟩
theorem sc__law_draw : FnScope nm__law_draw ["_law_source_here", "_law_bound"] (defScope s__law_draw) := ⟨rfl, rfl, rfl, by decide +kernel, rfl, by decide +kernel, by decide +kernel⟩
theorem sc__law_runs : FnScope nm__law_runs ["_law_source_here", "_law_pair", "_law_most", "_law_wide"] (defScope s__law_runs) := ⟨rfl, rfl, rfl, by decide +kernel, rfl, by decide +kernel, by decide +kernel⟩
theorem sc__law_town : FnScope nm__law_town ["_law_source_here", "_law_most", "_law_wide"] (defScope s__law_town) := ⟨rfl, rfl, rfl, by decide +kernel, rfl, by decide +kernel, by decide +kernel⟩
theorem sc__law_streets : FnScope nm__law_streets ["_law_source_here", "_law_pair", "_law_most"] (defScope s__law_streets) := ⟨rfl, rfl, rfl, by decide +kernel, rfl, by decide +kernel, by decide +kernel⟩
theorem sc__law_packed : FnScope nm__law_packed ["_law_signs"] (defScope s__law_packed) := ⟨rfl, rfl, rfl, by decide +kernel, rfl, by decide +kernel, by decide +kernel⟩
theorem sc__law_city_of : FnScope nm__law_city_of ["_law_rows", "_law_columns"] (defScope s__law_city_of) := ⟨rfl, rfl, rfl, by decide +kernel, rfl, by decide +kernel, by decide +kernel⟩
theorem sc__law_turned : FnScope nm__law_turned ["_law_runs_here", "_law_numbers"] (defScope s__law_turned) := ⟨rfl, rfl, rfl, by decide +kernel, rfl, by decide +kernel, by decide +kernel⟩
theorem sc__law_sign : FnScope nm__law_sign ["_law_runs_here", "_law_number"] (defScope s__law_sign) := ⟨rfl, rfl, rfl, by decide +kernel, rfl, by decide +kernel, by decide +kernel⟩
theorem sc__law_some : FnScope nm__law_some ["_law_source_here", "_law_runs_here", "_law_word", "_law_most"] (defScope s__law_some) := ⟨rfl, rfl, rfl, by decide +kernel, rfl, by decide +kernel, by decide +kernel⟩
theorem sc__law_right : FnScope nm__law_right ["_law_source_here", "_law_town_here"] (defScope s__law_right) := ⟨rfl, rfl, rfl, by decide +kernel, rfl, by decide +kernel, by decide +kernel⟩
theorem sc__law_small_right : FnScope nm__law_small_right ["_law_source_here"] (defScope s__law_small_right) := ⟨rfl, rfl, rfl, by decide +kernel, rfl, by decide +kernel, by decide +kernel⟩
theorem sc__law_large_right : FnScope nm__law_large_right ["_law_source_here"] (defScope s__law_large_right) := ⟨rfl, rfl, rfl, by decide +kernel, rfl, by decide +kernel, by decide +kernel⟩
theorem sc__law_many_right : FnScope nm__law_many_right ["_law_axis"] (defScope s__law_many_right) := ⟨rfl, rfl, rfl, by decide +kernel, rfl, by decide +kernel, by decide +kernel⟩
theorem sc_law : FnScope nm_law ["_law_script"] (defScope s_law) := ⟨rfl, rfl, rfl, by decide +kernel, rfl, by decide +kernel, by decide +kernel⟩
def kwl : List (List (Nat × List Str × List Nat)) := [[], [], [], [], [], [], [], [], [], [], [], [], [], [], [], [], [(0, [("streets" : Str), ("city" : Str)], [1, 0])], [], [], [], [], [], [], [], [], [], [], [], [], [], [], []]
def kwt : Nat → List (Nat × List Str × List Nat) := fun i => kwl.getD i []
structure Txt (K : PySem.W.Frag) (mg : Str → Option Value) (w : World) : Prop where
  nob : NoB mg
  gok : GOk ⟨K, w, none⟩ mg gns G
  t_is_integer : FnTxt K mg "is_integer" s_is_integer ["value", "low"] (kwt 0)
  t_is_run : FnTxt K mg "is_run" s_is_run ["value", "directions"] (kwt 1)
  t_are_runs : FnTxt K mg "are_runs" s_are_runs ["value", "directions"] (kwt 2)
  t_is_city : FnTxt K mg "is_city" s_is_city ["value"] (kwt 3)
  t_check_city : FnTxt K mg "check_city" s_check_city ["city"] (kwt 4)
  t_count_streets : FnTxt K mg "count_streets" s_count_streets ["runs"] (kwt 5)
  t_flipped : FnTxt K mg "flipped" s_flipped ["direction"] (kwt 6)
  t_joined : FnTxt K mg "joined" s_joined ["runs"] (kwt 7)
  t_street_run : FnTxt K mg "street_run" s_street_run ["runs", "number"] (kwt 8)
  t_is_street : FnTxt K mg "is_street" s_is_street ["city", "value"] (kwt 9)
  t_check_street : FnTxt K mg "check_street" s_check_street ["city", "street"] (kwt 10)
  t_grid_size : FnTxt K mg "grid_size" s_grid_size ["city"] (kwt 11)
  t_direction_of : FnTxt K mg "direction_of" s_direction_of ["city", "street"] (kwt 12)
  t_street_direction : FnTxt K mg "street_direction" s_street_direction ["city", "street"] (kwt 13)
  t_turned_runs : FnTxt K mg "turned_runs" s_turned_runs ["runs", "numbers"] (kwt 14)
  t_turned_city : FnTxt K mg "turned_city" s_turned_city ["city", "streets"] (kwt 15)
  t_reversed_city : FnTxt K mg "reversed_city" s_reversed_city ["city", "streets"] (kwt 16)
  t__law_source : FnTxt K mg "_law_source" s__law_source ["_law_script", "_law_k"] (kwt 17)
  t__law_draw : FnTxt K mg "_law_draw" s__law_draw ["_law_source_here", "_law_bound"] (kwt 18)
  t__law_runs : FnTxt K mg "_law_runs" s__law_runs ["_law_source_here", "_law_pair", "_law_most", "_law_wide"] (kwt 19)
  t__law_town : FnTxt K mg "_law_town" s__law_town ["_law_source_here", "_law_most", "_law_wide"] (kwt 20)
  t__law_streets : FnTxt K mg "_law_streets" s__law_streets ["_law_source_here", "_law_pair", "_law_most"] (kwt 21)
  t__law_packed : FnTxt K mg "_law_packed" s__law_packed ["_law_signs"] (kwt 22)
  t__law_city_of : FnTxt K mg "_law_city_of" s__law_city_of ["_law_rows", "_law_columns"] (kwt 23)
  t__law_turned : FnTxt K mg "_law_turned" s__law_turned ["_law_runs_here", "_law_numbers"] (kwt 24)
  t__law_sign : FnTxt K mg "_law_sign" s__law_sign ["_law_runs_here", "_law_number"] (kwt 25)
  t__law_some : FnTxt K mg "_law_some" s__law_some ["_law_source_here", "_law_runs_here", "_law_word", "_law_most"] (kwt 26)
  t__law_right : FnTxt K mg "_law_right" s__law_right ["_law_source_here", "_law_town_here"] (kwt 27)
  t__law_small_right : FnTxt K mg "_law_small_right" s__law_small_right ["_law_source_here"] (kwt 28)
  t__law_large_right : FnTxt K mg "_law_large_right" s__law_large_right ["_law_source_here"] (kwt 29)
  t__law_many_right : FnTxt K mg "_law_many_right" s__law_many_right ["_law_axis"] (kwt 30)
  t_law : FnTxt K mg "law" s_law ["_law_script"] (kwt 31)
  x_CityError : ExTxt K mg "CityError"
  x_InvalidCity : ExTxt K mg "InvalidCity"
  x_InvalidStreet : ExTxt K mg "InvalidStreet"
  x_InvalidStreets : ExTxt K mg "InvalidStreets"
  g_OPPOSITE : GdTxt K mg w "OPPOSITE" tb_OPPOSITE
section
variable {P : Program} {w : World} {K : PySem.W.Frag} {mg : Str → Option Value} {base : Heap} {k : Nat} {C : CallSem}
theorem at_is_integer (tx : Txt K mg w) (cc : Calls P w K mg base k nms kwt T C) : FnAt P w K mg base (k + 1) "is_integer" 2 (kwt 0) (fun ds S => if ds.length = 2 then trim S (endR (run W C G bd_is_integer (startE 2 ds) S)) else .bad) := by
  obtain ⟨f, fdd, hm, ⟨_, F⟩, hb, hkb⟩ := tx.t_is_integer.ex
  refine def_ok (fd := fd_is_integer) (i := f_is_integer) (T := T) (C := C) (G := G) (n := W) tx.nob F sc_is_integer rfl rfl rfl hm hb hkb ?_
  intro cdv A outer s H E cx room tk ow
  have gok := fun y => GOk.kw (y := y) tx.gok
  exact (dss_cons (ds_ret (de_and (de_biB cx m_isinstance bi_isinst (by rfl) b_isinstance (da_cons (de_var (pv 0)) (da_cons (de_ty cx m_int (by rfl) b_int)
  da_nil))) (de_and (de_nt (de_biB cx m_isinstance bi_isinst (by rfl) b_isinstance (da_cons (de_var (pv 0)) (da_cons (de_ty cx m_bool (by rfl) b_bool)
  da_nil)))) (pe_one (de_cmp cx (de_var (pv 0)) (de_var (pv 1)))))))
  dss_nil)
theorem at_is_run (tx : Txt K mg w) (cc : Calls P w K mg base k nms kwt T C) : FnAt P w K mg base (k + 1) "is_run" 2 (kwt 1) (fun ds S => if ds.length = 2 then trim S (endR (run W C G bd_is_run (startE 2 ds) S)) else .bad) := by
  obtain ⟨f, fdd, hm, ⟨_, F⟩, hb, hkb⟩ := tx.t_is_run.ex
  refine def_ok (fd := fd_is_run) (i := f_is_run) (T := T) (C := C) (G := G) (n := W) tx.nob F sc_is_run rfl rfl rfl hm hb hkb ?_
  intro cdv A outer s H E cx room tk ow
  have gok := fun y => GOk.kw (y := y) tx.gok
  exact (dss_cons (ds_if (dw_or (dt_nt (dt_tru (de_biB cx m_isinstance bi_isinst (by rfl) b_isinstance (da_cons (de_var (pv 0)) (da_cons (de_ty cx m_tuple
  (by rfl) b_tuple) da_nil))))) (dw_one_or (dt_cmp cx (de_biB cx m_len bi_len (by rfl) b_len (da_cons (de_var (pv 0)) da_nil)) de_int))).pt (dss_cons (ds_ret
  de_bl)
  dss_nil) dss_nil)
  (dss_cons (ds_ret (de_and (de_biB cx m_isinstance bi_isinst (by rfl) b_isinstance (da_cons (de_ix cx (de_var (pv 0)) de_int)
  (da_cons (de_ty cx m_str (by rfl) b_str) da_nil))) (de_and (de_cmp cx (de_ix cx (de_var (pv 0)) de_int) (de_var (pv 1))) (pe_one (de_call cc (i := 0)
  (by rfl) (by rfl) cx room tk (by rfl) (da_cons (de_ix cx (de_var (pv 0)) de_int) (da_cons de_int da_nil)))))))
  dss_nil))
theorem at_are_runs (tx : Txt K mg w) (cc : Calls P w K mg base k nms kwt T C) : FnAt P w K mg base (k + 1) "are_runs" 2 (kwt 2) (fun ds S => if ds.length = 2 then trim S (endR (run W C G bd_are_runs (startE 5 ds) S)) else .bad) := by
  obtain ⟨f, fdd, hm, ⟨_, F⟩, hb, hkb⟩ := tx.t_are_runs.ex
  refine def_ok (fd := fd_are_runs) (i := f_are_runs) (T := T) (C := C) (G := G) (n := W) tx.nob F sc_are_runs rfl rfl rfl hm hb hkb ?_
  intro cdv A outer s H E cx room tk ow
  have gok := fun y => GOk.kw (y := y) tx.gok
  exact (dss_cons (ds_if (dw_or (dt_nt (dt_tru (de_biB cx m_isinstance bi_isinst (by rfl) b_isinstance (da_cons (de_var (pv 0)) (da_cons (de_ty cx m_tuple
  (by rfl) b_tuple) da_nil))))) (dw_or (dt_cmp cx (de_biB cx m_len bi_len (by rfl) b_len (da_cons (de_var (pv 0)) da_nil)) de_int) (dw_one_or (dt_nt (dt_tru
  (de_biB cx m_all (bi_all (cx.calm rfl)) (by rfl) b_all (da_cons (de_frzv (de_lc (own := [("run", 4)]) cx (di_itr (de_var (pv 0))) (blkOk_by (own := [("run",
  4)]) (N := nm_are_runs) (sc := defScope s_are_runs) (by decide +kernel)) (fun _ _ _ _ _ => (dg_name (pg_name (i := 4) (cx.blk _ _ _ _ _).nd rfl (.inl rfl))))
  (fun _ _ _ _ _ => dts_nil) (fun _ _ _ _ _ => (de_call cc (i := 1) (by rfl) (by rfl) (cx.blk _ _ _ _ _) room takes0 (by rfl) (da_cons (de_var (pv 4)) (da_cons
  (de_var (pv 1)) da_nil)))) (by decide))) da_nil))))))).pt (dss_cons (ds_ret de_bl)
  dss_nil) dss_nil)
  (dss_cons (ds_ret (de_biB cx m_all (bi_all (cx.calm
  rfl)) (by rfl) b_all (da_cons (de_frzv (de_lc (own := [("one", 2), ("other", 3)]) cx (di_zip2 cx (by rfl) (de_var (pv 0)) (de_frzv (de_sl (de_var (pv 0))
  (dp_some de_int) dp_none))) (blkOk_by (own := [("one", 2), ("other", 3)]) (N := nm_are_runs) (sc := defScope s_are_runs) (by decide +kernel)) (fun _ _ _ _ _
  => (dg_tup ((cx.blk _ _ _ _ _).calm rfl) (dgs_cons (dg_name (pg_name (i := 2) (cx.blk _ _ _ _ _).nd rfl (.inl rfl))) (dgs_cons (dg_name (pg_name (i := 3)
  (cx.blk _ _ _ _ _).nd rfl (.inl rfl))) dgs_nil)))) (fun _ _ _ _ _ => dts_nil) (fun _ _ _ _ _ => (de_cmp (cx.blk _ _ _ _ _) (de_ix (cx.blk _ _ _ _ _) (de_var
  (pv 2)) de_int) (de_ix (cx.blk _ _ _ _ _) (de_var (pv 3)) de_int))) (by decide))) da_nil)))
  dss_nil))
theorem at_is_city (tx : Txt K mg w) (cc : Calls P w K mg base k nms kwt T C) : FnAt P w K mg base (k + 1) "is_city" 1 (kwt 3) (fun ds S => if ds.length = 1 then trim S (endR (run W C G bd_is_city (startE 1 ds) S)) else .bad) := by
  obtain ⟨f, fdd, hm, ⟨_, F⟩, hb, hkb⟩ := tx.t_is_city.ex
  refine def_ok (fd := fd_is_city) (i := f_is_city) (T := T) (C := C) (G := G) (n := W) tx.nob F sc_is_city rfl rfl rfl hm hb hkb ?_
  intro cdv A outer s H E cx room tk ow
  have gok := fun y => GOk.kw (y := y) tx.gok
  exact (dss_cons (ds_if (dw_or (dt_nt (dt_tru (de_biB cx m_isinstance bi_isinst (by rfl) b_isinstance (da_cons (de_var (pv 0)) (da_cons (de_ty cx m_tuple
  (by rfl) b_tuple) da_nil))))) (dw_one_or (dt_cmp cx (de_biB cx m_len bi_len (by rfl) b_len (da_cons (de_var (pv 0)) da_nil)) de_int))).pt (dss_cons (ds_ret
  de_bl)
  dss_nil) dss_nil)
  (dss_cons (ds_ret (de_and (de_call cc (i := 2) (by rfl) (by rfl) cx room tk (by rfl) (da_cons (de_ix cx (de_var (pv 0)) de_int)
  (da_cons (de_tup (da_cons (de_glo (gok _) (i := 0) rfl (by rfl)) (da_cons (de_glo (gok _) (i := 1) rfl (by rfl)) da_nil))) da_nil))) (pe_one (de_call cc (i
  := 2) (by rfl) (by rfl) cx room tk (by rfl) (da_cons (de_ix cx (de_var (pv 0)) de_int) (da_cons (de_tup (da_cons (de_glo (gok _) (i := 2) rfl (by rfl))
  (da_cons (de_glo (gok _) (i := 3) rfl (by rfl)) da_nil))) da_nil))))))
  dss_nil))
theorem at_check_city (tx : Txt K mg w) (cc : Calls P w K mg base k nms kwt T C) : FnAt P w K mg base (k + 1) "check_city" 1 (kwt 4) (fun ds S => if ds.length = 1 then trim S (endR (run W C G bd_check_city (startE 1 ds) S)) else .bad) := by
  obtain ⟨f, fdd, hm, ⟨_, F⟩, hb, hkb⟩ := tx.t_check_city.ex
  refine def_ok (fd := fd_check_city) (i := f_check_city) (T := T) (C := C) (G := G) (n := W) tx.nob F sc_check_city rfl rfl rfl hm hb hkb ?_
  intro cdv A outer s H E cx room tk ow
  have gok := fun y => GOk.kw (y := y) tx.gok
  exact (dss_cons (ds_if (dt_nt (dt_tru (de_call cc (i := 3) (by rfl) (by rfl) cx room tk (by rfl) (da_cons (de_var (pv 0)) da_nil)))) (dss_cons (ds_raise0 (c
  := 1) (by rfl) tx.x_InvalidCity cx tk (by rfl))
  dss_nil) dss_nil)
  dss_nil)
theorem at_count_streets (tx : Txt K mg w) (cc : Calls P w K mg base k nms kwt T C) : FnAt P w K mg base (k + 1) "count_streets" 1 (kwt 5) (fun ds S => if ds.length = 1 then trim S (endR (run W C G bd_count_streets (startE 3 ds) S)) else .bad) := by
  obtain ⟨f, fdd, hm, ⟨_, F⟩, hb, hkb⟩ := tx.t_count_streets.ex
  refine def_ok (fd := fd_count_streets) (i := f_count_streets) (T := T) (C := C) (G := G) (n := W) tx.nob F sc_count_streets rfl rfl rfl hm hb hkb ?_
  intro cdv A outer s H E cx room tk ow
  have gok := fun y => GOk.kw (y := y) tx.gok
  exact (dss_cons (ds_ret (de_biB cx m_sum (bi_sum (cx.calm rfl)) (by rfl) b_sum (da_cons (de_frzv (de_lc (own := [("direction", 1), ("count", 2)]) cx (di_itr
  (de_var (pv 0))) (blkOk_by (own := [("direction", 1), ("count", 2)]) (N := nm_count_streets) (sc := defScope s_count_streets) (by decide +kernel)) (fun _ _ _
  _ _ => (dg_tup ((cx.blk _ _ _ _ _).calm rfl) (dgs_cons (dg_name (pg_name (i := 1) (cx.blk _ _ _ _ _).nd rfl (.inl rfl))) (dgs_cons (dg_name (pg_name (i := 2)
  (cx.blk _ _ _ _ _).nd rfl (.inl rfl))) dgs_nil)))) (fun _ _ _ _ _ => dts_nil) (fun _ _ _ _ _ => (de_var (pv 2))) (by decide))) da_nil)))
  dss_nil)
theorem at_flipped (tx : Txt K mg w) (cc : Calls P w K mg base k nms kwt T C) : FnAt P w K mg base (k + 1) "flipped" 1 (kwt 6) (fun ds S => if ds.length = 1 then trim S (endR (run W C G bd_flipped (startE 1 ds) S)) else .bad) := by
  obtain ⟨f, fdd, hm, ⟨_, F⟩, hb, hkb⟩ := tx.t_flipped.ex
  refine def_ok (fd := fd_flipped) (i := f_flipped) (T := T) (C := C) (G := G) (n := W) tx.nob F sc_flipped rfl rfl rfl hm hb hkb ?_
  intro cdv A outer s H E cx room tk ow
  have gok := fun y => GOk.kw (y := y) tx.gok
  exact (dss_cons (ds_ret (de_gdx tx.g_OPPOSITE (by rfl) (de_var (pv 0))))
  dss_nil)
theorem at_joined (tx : Txt K mg w) (cc : Calls P w K mg base k nms kwt T C) : FnAt P w K mg base (k + 1) "joined" 1 (kwt 7) (fun ds S => if ds.length = 1 then trim S (endR (run W C G bd_joined (startE 4 ds) S)) else .bad) := by
  obtain ⟨f, fdd, hm, ⟨_, F⟩, hb, hkb⟩ := tx.t_joined.ex
  refine def_ok (fd := fd_joined) (i := f_joined) (T := T) (C := C) (G := G) (n := W) tx.nob F sc_joined rfl rfl rfl hm hb hkb ?_
  intro cdv A outer s H E cx room tk ow
  have gok := fun y => GOk.kw (y := y) tx.gok
  exact (dss_cons (ds_asg (de_lst da_nil) (dgu_bind (dg_name (pg_name (i := 1) cx.nd rfl (.inl rfl)))))
  (dss_cons (ds_fz (i := 1) (ds_for ow (cx.calm rfl)
  (di_itr (de_var (pv 0))) (dg_tup (cx.calm rfl) (dgs_cons (dg_name (pg_name (i := 2) cx.nd rfl (.inl rfl))) (dgs_cons (dg_name (pg_name (i := 3) cx.nd rfl
  (.inl rfl))) dgs_nil))) (dss_cons (ds_if (dw_and (dt_cmp cx (de_var (pv 1)) (de_frzv (de_lst da_nil))) (dw_one_and (dt_cmp cx (de_ix cx (de_ix cx (de_var (pv
  1)) (de_neg de_int)) de_int) (de_var (pv 2))))).pt (dss_cons (ds_asg (de_tup (da_cons (de_var (pv 2)) (da_cons (de_bin (de_ix cx (de_ix cx (de_var (pv 1))
  (de_neg de_int)) de_int) (de_var (pv 3))) da_nil))) (dgu_ix cx (de_var (pv 1)) (de_neg de_int)))
  dss_nil) (dss_cons (ds_expr (de_mt mi_append (de_var (pv
  1)) (da_cons (de_tup (da_cons (de_var (pv 2)) (da_cons (de_var (pv 3)) da_nil))) da_nil)))
  dss_nil))
  dss_nil)))
  (dss_cons (ds_ret (de_biT cx m_tuple
  bi_tuple (by rfl) b_tuple (da_cons (de_var (pv 1)) da_nil)))
  dss_nil)))
theorem at_street_run (tx : Txt K mg w) (cc : Calls P w K mg base k nms kwt T C) : FnAt P w K mg base (k + 1) "street_run" 2 (kwt 8) (fun ds S => if ds.length = 2 then trim S (endR (run W C G bd_street_run (startE 5 ds) S)) else .bad) := by
  obtain ⟨f, fdd, hm, ⟨_, F⟩, hb, hkb⟩ := tx.t_street_run.ex
  refine def_ok (fd := fd_street_run) (i := f_street_run) (T := T) (C := C) (G := G) (n := W) tx.nob F sc_street_run rfl rfl rfl hm hb hkb ?_
  intro cdv A outer s H E cx room tk ow
  have gok := fun y => GOk.kw (y := y) tx.gok
  exact (dss_cons (ds_asg de_int (dgu_bind (dg_name (pg_name (i := 2) cx.nd rfl (.inl rfl)))))
  (dss_cons (ds_for ow (cx.calm rfl) (di_itr (de_var (pv 0)))
  (dg_tup (cx.calm rfl) (dgs_cons (dg_name (pg_name (i := 3) cx.nd rfl (.inl rfl))) (dgs_cons (dg_name (pg_name (i := 4) cx.nd rfl (.inl rfl))) dgs_nil)))
  (dss_cons (ds_if (dt_cmp cx (de_var (pv 1)) (de_bin (de_var (pv 2)) (de_var (pv 4)))) (dss_cons (ds_ret (de_tup (da_cons (de_var (pv 3)) (da_cons (de_var (pv
  2)) (da_cons (de_bin (de_bin (de_var (pv 2)) (de_var (pv 4))) de_int) da_nil)))))
  dss_nil) dss_nil)
  (dss_cons (ds_aug (i := 2) cx.nd rfl (.inl rfl)
  (de_var (pv 4)))
  dss_nil)))
  (dss_cons (ds_ret de_non)
  dss_nil)))
theorem at_is_street (tx : Txt K mg w) (cc : Calls P w K mg base k nms kwt T C) : FnAt P w K mg base (k + 1) "is_street" 2 (kwt 9) (fun ds S => if ds.length = 2 then trim S (endR (run W C G bd_is_street (startE 2 ds) S)) else .bad) := by
  obtain ⟨f, fdd, hm, ⟨_, F⟩, hb, hkb⟩ := tx.t_is_street.ex
  refine def_ok (fd := fd_is_street) (i := f_is_street) (T := T) (C := C) (G := G) (n := W) tx.nob F sc_is_street rfl rfl rfl hm hb hkb ?_
  intro cdv A outer s H E cx room tk ow
  have gok := fun y => GOk.kw (y := y) tx.gok
  exact (dss_cons (ds_if (dw_or (dt_nt (dt_tru (de_biB cx m_isinstance bi_isinst (by rfl) b_isinstance (da_cons (de_var (pv 1)) (da_cons (de_ty cx m_tuple
  (by rfl) b_tuple) da_nil))))) (dw_or (dt_cmp cx (de_biB cx m_len bi_len (by rfl) b_len (da_cons (de_var (pv 1)) da_nil)) de_int) (dw_one_or (dt_nt (dt_tru
  (de_biB cx m_isinstance bi_isinst (by rfl) b_isinstance (da_cons (de_ix cx (de_var (pv 1)) de_int) (da_cons (de_ty cx m_str (by rfl) b_str) da_nil)))))))).pt
  (dss_cons (ds_ret de_bl)
  dss_nil) dss_nil)
  (dss_cons (ds_if (dw_or (dt_cmp cx (de_ix cx (de_var (pv 1)) de_int) (de_tup (da_cons (de_glo (gok _) (i := 4)
  rfl (by rfl)) (da_cons (de_glo (gok _) (i := 5) rfl (by rfl)) da_nil)))) (dw_one_or (dt_nt (dt_tru (de_call cc (i := 0) (by rfl) (by rfl) cx room tk (by rfl)
  (da_cons (de_ix cx (de_var (pv 1)) de_int) (da_cons de_int da_nil))))))).pt (dss_cons (ds_ret de_bl)
  dss_nil) dss_nil)
  (dss_cons (ds_ret (de_cmp cx
  (de_ix cx (de_var (pv 1)) de_int) (de_call cc (i := 5) (by rfl) (by rfl) cx room tk (by rfl) (da_cons (de_ix cx (de_var (pv 0)) (de_biT cx m_int bi_int
  (by rfl) b_int (da_cons (de_cmp cx (de_ix cx (de_var (pv 1)) de_int) (de_glo (gok _) (i := 5) rfl (by rfl))) da_nil))) da_nil))))
  dss_nil)))
theorem at_check_street (tx : Txt K mg w) (cc : Calls P w K mg base k nms kwt T C) : FnAt P w K mg base (k + 1) "check_street" 2 (kwt 10) (fun ds S => if ds.length = 2 then trim S (endR (run W C G bd_check_street (startE 2 ds) S)) else .bad) := by
  obtain ⟨f, fdd, hm, ⟨_, F⟩, hb, hkb⟩ := tx.t_check_street.ex
  refine def_ok (fd := fd_check_street) (i := f_check_street) (T := T) (C := C) (G := G) (n := W) tx.nob F sc_check_street rfl rfl rfl hm hb hkb ?_
  intro cdv A outer s H E cx room tk ow
  have gok := fun y => GOk.kw (y := y) tx.gok
  exact (dss_cons (ds_if (dt_nt (dt_tru (de_call cc (i := 9) (by rfl) (by rfl) cx room tk (by rfl) (da_cons (de_var (pv 0)) (da_cons (de_var (pv 1))
  da_nil))))) (dss_cons (ds_raise0 (c := 2) (by rfl) tx.x_InvalidStreet cx tk (by rfl))
  dss_nil) dss_nil)
  dss_nil)
theorem at_grid_size (tx : Txt K mg w) (cc : Calls P w K mg base k nms kwt T C) : FnAt P w K mg base (k + 1) "grid_size" 1 (kwt 11) (fun ds S => if ds.length = 1 then trim S (endR (run W C G bd_grid_size (startE 1 ds) S)) else .bad) := by
  obtain ⟨f, fdd, hm, ⟨_, F⟩, hb, hkb⟩ := tx.t_grid_size.ex
  refine def_ok (fd := fd_grid_size) (i := f_grid_size) (T := T) (C := C) (G := G) (n := W) tx.nob F sc_grid_size rfl rfl rfl hm hb hkb ?_
  intro cdv A outer s H E cx room tk ow
  have gok := fun y => GOk.kw (y := y) tx.gok
  exact (dss_cons (ds_expr (de_call cc (i := 4) (by rfl) (by rfl) cx room tk (by rfl) (da_cons (de_var (pv 0)) da_nil)))
  (dss_cons (ds_ret (de_tup (da_cons
  (de_call cc (i := 5) (by rfl) (by rfl) cx room tk (by rfl) (da_cons (de_ix cx (de_var (pv 0)) de_int) da_nil)) (da_cons (de_call cc (i := 5) (by rfl)
  (by rfl) cx room tk (by rfl) (da_cons (de_ix cx (de_var (pv 0)) de_int) da_nil)) da_nil))))
  dss_nil))
theorem at_direction_of (tx : Txt K mg w) (cc : Calls P w K mg base k nms kwt T C) : FnAt P w K mg base (k + 1) "direction_of" 2 (kwt 12) (fun ds S => if ds.length = 2 then trim S (endR (run W C G bd_direction_of (startE 2 ds) S)) else .bad) := by
  obtain ⟨f, fdd, hm, ⟨_, F⟩, hb, hkb⟩ := tx.t_direction_of.ex
  refine def_ok (fd := fd_direction_of) (i := f_direction_of) (T := T) (C := C) (G := G) (n := W) tx.nob F sc_direction_of rfl rfl rfl hm hb hkb ?_
  intro cdv A outer s H E cx room tk ow
  have gok := fun y => GOk.kw (y := y) tx.gok
  exact (dss_cons (ds_ret (de_ix cx (de_call cc (i := 8) (by rfl) (by rfl) cx room tk (by rfl) (da_cons (de_ix cx (de_var (pv 0)) (de_biT cx m_int bi_int
  (by rfl) b_int (da_cons (de_cmp cx (de_ix cx (de_var (pv 1)) de_int) (de_glo (gok _) (i := 5) rfl (by rfl))) da_nil))) (da_cons (de_ix cx (de_var (pv 1))
  de_int) da_nil))) de_int))
  dss_nil)
theorem at_street_direction (tx : Txt K mg w) (cc : Calls P w K mg base k nms kwt T C) : FnAt P w K mg base (k + 1) "street_direction" 2 (kwt 13) (fun ds S => if ds.length = 2 then trim S (endR (run W C G bd_street_direction (startE 2 ds) S)) else .bad) := by
  obtain ⟨f, fdd, hm, ⟨_, F⟩, hb, hkb⟩ := tx.t_street_direction.ex
  refine def_ok (fd := fd_street_direction) (i := f_street_direction) (T := T) (C := C) (G := G) (n := W) tx.nob F sc_street_direction rfl rfl rfl hm hb hkb ?_
  intro cdv A outer s H E cx room tk ow
  have gok := fun y => GOk.kw (y := y) tx.gok
  exact (dss_cons (ds_expr (de_call cc (i := 4) (by rfl) (by rfl) cx room tk (by rfl) (da_cons (de_var (pv 0)) da_nil)))
  (dss_cons (ds_expr (de_call cc (i :=
  10) (by rfl) (by rfl) cx room tk (by rfl) (da_cons (de_var (pv 0)) (da_cons (de_var (pv 1)) da_nil))))
  (dss_cons (ds_ret (de_call cc (i := 12) (by rfl)
  (by rfl) cx room tk (by rfl) (da_cons (de_var (pv 0)) (da_cons (de_var (pv 1)) da_nil))))
  dss_nil)))
theorem at_turned_runs (tx : Txt K mg w) (cc : Calls P w K mg base k nms kwt T C) : FnAt P w K mg base (k + 1) "turned_runs" 2 (kwt 14) (fun ds S => if ds.length = 2 then trim S (endR (run W C G bd_turned_runs (startE 9 ds) S)) else .bad) := by
  obtain ⟨f, fdd, hm, ⟨_, F⟩, hb, hkb⟩ := tx.t_turned_runs.ex
  refine def_ok (fd := fd_turned_runs) (i := f_turned_runs) (T := T) (C := C) (G := G) (n := W) tx.nob F sc_turned_runs rfl rfl rfl hm hb hkb ?_
  intro cdv A outer s H E cx room tk ow
  have gok := fun y => GOk.kw (y := y) tx.gok
  exact (dss_cons (ds_asg (de_lst da_nil) (dgu_bind (dg_name (pg_name (i := 2) cx.nd rfl (.inl rfl)))))
  (dss_cons (ds_asg de_int (dgu_bind (dg_name (pg_name
  (i := 3) cx.nd rfl (.inl rfl)))))
  (dss_cons (ds_fz (i := 2) (ds_for ow (cx.calm rfl) (di_itr (de_var (pv 0))) (dg_tup (cx.calm rfl) (dgs_cons (dg_name
  (pg_name (i := 4) cx.nd rfl (.inl rfl))) (dgs_cons (dg_name (pg_name (i := 5) cx.nd rfl (.inl rfl))) dgs_nil))) (dss_cons (ds_asg (de_var (pv 3)) (dgu_bind
  (dg_name (pg_name (i := 6) cx.nd rfl (.inl rfl)))))
  (dss_cons (ds_for ow (cx.calm rfl) (di_itr (de_var (pv 1))) (dg_name (pg_name (i := 7) cx.nd rfl (.inl
  rfl))) (dss_cons (ds_if (dt_cmp2 cx (de_var (pv 3)) (de_var (pv 7)) (de_bin (de_var (pv 3)) (de_var (pv 5)))) (dss_cons (ds_asg (de_bin (de_var (pv 2))
  (de_frzv (de_lst (da_cons (de_tup (da_cons (de_var (pv 4)) (da_cons (de_bin (de_var (pv 7)) (de_var (pv 6))) da_nil))) (da_cons (de_tup (da_cons (de_call cc
  (i := 6) (by rfl) (by rfl) cx room tk (by rfl) (da_cons (de_var (pv 4)) da_nil)) (da_cons de_int da_nil))) da_nil))))) (dgu_bind (dg_name (pg_name (i := 2)
  cx.nd rfl (.inl rfl)))))
  (dss_cons (ds_asg (de_bin (de_var (pv 7)) de_int) (dgu_bind (dg_name (pg_name (i := 6) cx.nd rfl (.inl rfl)))))
  dss_nil))
  dss_nil)
  dss_nil))
  (dss_cons (ds_aug (i := 3) cx.nd rfl (.inl rfl) (de_var (pv 5)))
  (dss_cons (ds_expr (de_mt mi_append (de_var (pv 2)) (da_cons
  (de_tup (da_cons (de_var (pv 4)) (da_cons (de_bin (de_var (pv 3)) (de_var (pv 6))) da_nil))) da_nil)))
  dss_nil))))))
  (dss_cons (ds_ret (de_call cc (i :=
  7) (by rfl) (by rfl) cx room tk (by rfl) (da_cons (de_frzv (de_lc (own := [("run", 8)]) cx (di_itr (de_var (pv 2))) (blkOk_by (own := [("run", 8)]) (N :=
  nm_turned_runs) (sc := defScope s_turned_runs) (by decide +kernel)) (fun _ _ _ _ _ => (dg_name (pg_name (i := 8) (cx.blk _ _ _ _ _).nd rfl (.inl rfl)))) (fun
  _ _ _ _ _ => (dts_one (dt_cmp (cx.blk _ _ _ _ _) (de_ix (cx.blk _ _ _ _ _) (de_var (pv 8)) de_int) de_int))) (fun _ _ _ _ _ => (de_var (pv 8))) (by decide)))
  da_nil)))
  dss_nil))))
theorem at_turned_city (tx : Txt K mg w) (cc : Calls P w K mg base k nms kwt T C) : FnAt P w K mg base (k + 1) "turned_city" 2 (kwt 15) (fun ds S => if ds.length = 2 then trim S (endR (run W C G bd_turned_city (startE 6 ds) S)) else .bad) := by
  obtain ⟨f, fdd, hm, ⟨_, F⟩, hb, hkb⟩ := tx.t_turned_city.ex
  refine def_ok (fd := fd_turned_city) (i := f_turned_city) (T := T) (C := C) (G := G) (n := W) tx.nob F sc_turned_city rfl rfl rfl hm hb hkb ?_
  intro cdv A outer s H E cx room tk ow
  have gok := fun y => GOk.kw (y := y) tx.gok
  exact (dss_cons (ds_asg (de_frzv (de_biB cx m_sorted (bi_sorted cx) (by rfl) b_sorted (da_cons (de_frzv (de_lc (own := [("kind", 4), ("number", 5)]) cx
  (di_itr (de_var (pv 1))) (blkOk_by (own := [("kind", 4), ("number", 5)]) (N := nm_turned_city) (sc := defScope s_turned_city) (by decide +kernel)) (fun _ _ _
  _ _ => (dg_tup ((cx.blk _ _ _ _ _).calm rfl) (dgs_cons (dg_name (pg_name (i := 4) (cx.blk _ _ _ _ _).nd rfl (.inl rfl))) (dgs_cons (dg_name (pg_name (i := 5)
  (cx.blk _ _ _ _ _).nd rfl (.inl rfl))) dgs_nil)))) (fun _ _ _ _ _ => (dts_one (dt_cmp (cx.blk _ _ _ _ _) (de_var (pv 4)) (de_glo (gok _) (i := 4) rfl
  (by rfl))))) (fun _ _ _ _ _ => (de_var (pv 5))) (by decide))) da_nil))) (dgu_bind (dg_name (pg_name (i := 2) cx.nd rfl (.inl rfl)))))
  (dss_cons (ds_asg
  (de_frzv (de_biB cx m_sorted (bi_sorted cx) (by rfl) b_sorted (da_cons (de_frzv (de_lc (own := [("kind", 4), ("number", 5)]) cx (di_itr (de_var (pv 1)))
  (blkOk_by (own := [("kind", 4), ("number", 5)]) (N := nm_turned_city) (sc := defScope s_turned_city) (by decide +kernel)) (fun _ _ _ _ _ => (dg_tup ((cx.blk
  _ _ _ _ _).calm rfl) (dgs_cons (dg_name (pg_name (i := 4) (cx.blk _ _ _ _ _).nd rfl (.inl rfl))) (dgs_cons (dg_name (pg_name (i := 5) (cx.blk _ _ _ _ _).nd
  rfl (.inl rfl))) dgs_nil)))) (fun _ _ _ _ _ => (dts_one (dt_cmp (cx.blk _ _ _ _ _) (de_var (pv 4)) (de_glo (gok _) (i := 5) rfl (by rfl))))) (fun _ _ _ _ _
  => (de_var (pv 5))) (by decide))) da_nil))) (dgu_bind (dg_name (pg_name (i := 3) cx.nd rfl (.inl rfl)))))
  (dss_cons (ds_ret (de_tup (da_cons (de_call cc (i
  := 14) (by rfl) (by rfl) cx room tk (by rfl) (da_cons (de_ix cx (de_var (pv 0)) de_int) (da_cons (de_var (pv 2)) da_nil))) (da_cons (de_call cc (i := 14)
  (by rfl) (by rfl) cx room tk (by rfl) (da_cons (de_ix cx (de_var (pv 0)) de_int) (da_cons (de_var (pv 3)) da_nil))) da_nil))))
  dss_nil)))
theorem at_reversed_city (tx : Txt K mg w) (cc : Calls P w K mg base k nms kwt T C) : FnAt P w K mg base (k + 1) "reversed_city" 2 (kwt 16) (fun ds S => if ds.length = 2 then trim S (endR (run W C G bd_reversed_city (startE 3 ds) S)) else .bad) := by
  obtain ⟨f, fdd, hm, ⟨_, F⟩, hb, hkb⟩ := tx.t_reversed_city.ex
  refine def_ok (fd := fd_reversed_city) (i := f_reversed_city) (T := T) (C := C) (G := G) (n := W) tx.nob F sc_reversed_city rfl rfl rfl hm hb hkb ?_
  intro cdv A outer s H E cx room tk ow
  have gok := fun y => GOk.kw (y := y) tx.gok
  exact (dss_cons (ds_expr (de_call cc (i := 4) (by rfl) (by rfl) cx room tk (by rfl) (da_cons (de_var (pv 0)) da_nil)))
  (dss_cons (ds_if (dw_or (dt_nt
  (dt_tru (de_biB cx m_isinstance bi_isinst (by rfl) b_isinstance (da_cons (de_var (pv 1)) (da_cons (de_ty cx m_list (by rfl) b_list) da_nil))))) (dw_one_or
  (dt_nt (dt_tru (de_biB cx m_all (bi_all (cx.calm rfl)) (by rfl) b_all (da_cons (de_frzv (de_lc (own := [("street", 2)]) cx (di_itr (de_var (pv 1))) (blkOk_by
  (own := [("street", 2)]) (N := nm_reversed_city) (sc := defScope s_reversed_city) (by decide +kernel)) (fun _ _ _ _ _ => (dg_name (pg_name (i := 2) (cx.blk _
  _ _ _ _).nd rfl (.inl rfl)))) (fun _ _ _ _ _ => dts_nil) (fun _ _ _ _ _ => (de_call cc (i := 9) (by rfl) (by rfl) (cx.blk _ _ _ _ _) room takes0 (by rfl)
  (da_cons (de_var (pv 0)) (da_cons (de_var (pv 2)) da_nil)))) (by decide))) da_nil)))))).pt (dss_cons (ds_raise0 (c := 3) (by rfl) tx.x_InvalidStreets cx tk
  (by rfl))
  dss_nil) dss_nil)
  (dss_cons (ds_if (dt_cmp cx (de_lset cx (by rfl) (by rfl) (de_var (pv 1))) (de_biB cx m_len bi_len (by rfl) b_len (da_cons
  (de_var (pv 1)) da_nil))) (dss_cons (ds_raise0 (c := 3) (by rfl) tx.x_InvalidStreets cx tk (by rfl))
  dss_nil) dss_nil)
  (dss_cons (ds_ret (de_call cc (i
  := 15) (by rfl) (by rfl) cx room tk (by rfl) (da_cons (de_var (pv 0)) (da_cons (de_var (pv 1)) da_nil))))
  dss_nil))))
theorem at__law_source (tx : Txt K mg w) (cc : Calls P w K mg base k nms kwt T C) : FnAt P w K mg base (k + 1) "_law_source" 2 (kwt 17) (fun ds S => if ds.length = 2 then trim S (endR (run W C G bd__law_source (startE 3 ds) S)) else .bad) := by
  obtain ⟨f, fdd, hm, ⟨_, F⟩, hb, hkb⟩ := tx.t__law_source.ex
  refine def_ok (fd := fd__law_source) (i := f__law_source) (T := T) (C := C) (G := G) (n := W) tx.nob F sc__law_source rfl rfl rfl hm hb hkb ?_
  intro cdv A outer s H E cx room tk ow
  have gok := fun y => GOk.kw (y := y) tx.gok
  exact (dss_cons (ds_asg (de_ife (dt_cmp cx (de_var (pv 1)) (de_biB cx m_len bi_len (by rfl) b_len (da_cons (de_var (pv 0)) da_nil))) (de_ix cx (de_var (pv
  0)) (de_var (pv 1))) de_int) (dgu_bind (dg_name (pg_name (i := 2) cx.nd rfl (.inl rfl)))))
  (dss_cons (ds_ret (de_lst (da_cons (de_biB cx m_max (bi_max
  (cx.calm rfl)) (by rfl) b_max (da_cons de_int (da_cons (de_bin (de_biB cx m_abs bi_abs (by rfl) b_abs (da_cons (de_var (pv 2)) da_nil)) (de_bin de_int
  de_int)) da_nil))) (da_cons (de_bin (de_bin (de_var (pv 2)) (de_bin (de_bin de_int de_int) de_int)) (de_bin de_int (de_var (pv 1)))) (da_cons de_int
  da_nil)))))
  dss_nil))
theorem at__law_draw (tx : Txt K mg w) (cc : Calls P w K mg base k nms kwt T C) : FnAt P w K mg base (k + 1) "_law_draw" 2 (kwt 18) (fun ds S => if ds.length = 2 then trim S (endR (run W C G bd__law_draw (startE 4 ds) S)) else .bad) := by
  obtain ⟨f, fdd, hm, ⟨_, F⟩, hb, hkb⟩ := tx.t__law_draw.ex
  refine def_ok (fd := fd__law_draw) (i := f__law_draw) (T := T) (C := C) (G := G) (n := W) tx.nob F sc__law_draw rfl rfl rfl hm hb hkb ?_
  intro cdv A outer s H E cx room tk ow
  have gok := fun y => GOk.kw (y := y) tx.gok
  exact (dss_cons (ds_if (dt_cmp cx (de_ix cx (de_var (pv 0)) de_int) de_int) (dss_cons (ds_asg (de_bin (de_ix cx (de_var (pv 0)) de_int) (de_var (pv 1)))
  (dgu_bind (dg_name (pg_name (i := 2) cx.nd rfl (.inl rfl)))))
  (dss_cons (ds_asg (de_bin (de_ix cx (de_var (pv 0)) de_int) (de_var (pv 1))) (dgu_ix cx
  (de_var (pv 0)) de_int))
  (dss_cons (ds_ret (de_var (pv 2)))
  dss_nil))) dss_nil)
  (dss_cons (ds_asg (de_bin (de_ix cx (de_var (pv 0)) de_int) de_int)
  (dgu_ix cx (de_var (pv 0)) de_int))
  (dss_cons (ds_asg (de_bin (de_bin (de_bin (de_ix cx (de_var (pv 0)) de_int) (de_bin de_int (de_ix cx (de_var (pv 0))
  de_int))) de_int) (de_bin (de_bin de_int de_int) de_int)) (dgu_bind (dg_name (pg_name (i := 3) cx.nd rfl (.inl rfl)))))
  (dss_cons (ds_asg (de_bin (de_bin
  (de_bin (de_var (pv 3)) (de_bin de_int (de_ix cx (de_var (pv 0)) de_int))) de_int) (de_bin (de_bin de_int de_int) de_int)) (dgu_bind (dg_name (pg_name (i :=
  3) cx.nd rfl (.inl rfl)))))
  (dss_cons (ds_ret (de_bin (de_bin (de_var (pv 3)) de_int) (de_var (pv 1))))
  dss_nil)))))
theorem at__law_runs (tx : Txt K mg w) (cc : Calls P w K mg base k nms kwt T C) : FnAt P w K mg base (k + 1) "_law_runs" 4 (kwt 19) (fun ds S => if ds.length = 4 then trim S (endR (run W C G bd__law_runs (startE 8 ds) S)) else .bad) := by
  obtain ⟨f, fdd, hm, ⟨_, F⟩, hb, hkb⟩ := tx.t__law_runs.ex
  refine def_ok (fd := fd__law_runs) (i := f__law_runs) (T := T) (C := C) (G := G) (n := W) tx.nob F sc__law_runs rfl rfl rfl hm hb hkb ?_
  intro cdv A outer s H E cx room tk ow
  have gok := fun y => GOk.kw (y := y) tx.gok
  exact (dss_cons (ds_par2 (i := 4) (j := 5) (cx.calm rfl) cx.nd rfl rfl (by decide) rfl rfl (da_cons (de_call cc (i := 18) (by rfl) (by rfl) cx room tk
  (by rfl) (da_cons (de_var (pv 0)) (da_cons de_int da_nil))) (da_cons (de_lst da_nil) da_nil)) (by rfl))
  (dss_cons (ds_fz (i := 5) (ds_for ow (cx.calm rfl)
  (di_rng1 cx (by rfl) (de_bin de_int (de_call cc (i := 18) (by rfl) (by rfl) cx room tk (by rfl) (da_cons (de_var (pv 0)) (da_cons (de_var (pv 2)) da_nil)))))
  (dg_name (pg_name (i := 6) cx.nd rfl (.inl rfl))) (dss_cons (ds_asg (de_ix cx (de_frzv (de_lst (da_cons de_int (da_cons (de_bin de_int (de_call cc (i := 18)
  (by rfl) (by rfl) cx room tk (by rfl) (da_cons (de_var (pv 0)) (da_cons de_int da_nil)))) (da_cons (de_bin de_int (de_call cc (i := 18) (by rfl) (by rfl) cx
  room tk (by rfl) (da_cons (de_var (pv 0)) (da_cons (de_var (pv 3)) da_nil)))) da_nil))))) (de_call cc (i := 18) (by rfl) (by rfl) cx room tk (by rfl)
  (da_cons (de_var (pv 0)) (da_cons de_int da_nil)))) (dgu_bind (dg_name (pg_name (i := 7) cx.nd rfl (.inl rfl)))))
  (dss_cons (ds_expr (de_mt mi_append
  (de_var (pv 5)) (da_cons (de_tup (da_cons (de_ix cx (de_var (pv 1)) (de_bin (de_bin (de_var (pv 4)) (de_var (pv 6))) de_int)) (da_cons (de_var (pv 7))
  da_nil))) da_nil)))
  dss_nil))))
  (dss_cons (ds_ret (de_biT cx m_tuple bi_tuple (by rfl) b_tuple (da_cons (de_var (pv 5)) da_nil)))
  dss_nil)))
theorem at__law_town (tx : Txt K mg w) (cc : Calls P w K mg base k nms kwt T C) : FnAt P w K mg base (k + 1) "_law_town" 3 (kwt 20) (fun ds S => if ds.length = 3 then trim S (endR (run W C G bd__law_town (startE 3 ds) S)) else .bad) := by
  obtain ⟨f, fdd, hm, ⟨_, F⟩, hb, hkb⟩ := tx.t__law_town.ex
  refine def_ok (fd := fd__law_town) (i := f__law_town) (T := T) (C := C) (G := G) (n := W) tx.nob F sc__law_town rfl rfl rfl hm hb hkb ?_
  intro cdv A outer s H E cx room tk ow
  have gok := fun y => GOk.kw (y := y) tx.gok
  exact (dss_cons (ds_ret (de_tup (da_cons (de_call cc (i := 19) (by rfl) (by rfl) cx room tk (by rfl) (da_cons (de_var (pv 0)) (da_cons de_str (da_cons
  (de_var (pv 1)) (da_cons (de_var (pv 2)) da_nil))))) (da_cons (de_call cc (i := 19) (by rfl) (by rfl) cx room tk (by rfl) (da_cons (de_var (pv 0)) (da_cons
  de_str (da_cons (de_var (pv 1)) (da_cons (de_var (pv 2)) da_nil))))) da_nil))))
  dss_nil)
theorem at__law_streets (tx : Txt K mg w) (cc : Calls P w K mg base k nms kwt T C) : FnAt P w K mg base (k + 1) "_law_streets" 3 (kwt 21) (fun ds S => if ds.length = 3 then trim S (endR (run W C G bd__law_streets (startE 7 ds) S)) else .bad) := by
  obtain ⟨f, fdd, hm, ⟨_, F⟩, hb, hkb⟩ := tx.t__law_streets.ex
  refine def_ok (fd := fd__law_streets) (i := f__law_streets) (T := T) (C := C) (G := G) (n := W) tx.nob F sc__law_streets rfl rfl rfl hm hb hkb ?_
  intro cdv A outer s H E cx room tk ow
  have gok := fun y => GOk.kw (y := y) tx.gok
  exact (dss_cons (ds_par3 (i := 3) (j := 4) (l := 5) (cx.calm rfl) cx.nd rfl rfl rfl (by decide) (by decide) (by decide) rfl rfl rfl (da_cons (de_call cc (i
  := 18) (by rfl) (by rfl) cx room tk (by rfl) (da_cons (de_var (pv 0)) (da_cons de_int da_nil))) (da_cons (de_call cc (i := 18) (by rfl) (by rfl) cx room tk
  (by rfl) (da_cons (de_var (pv 0)) (da_cons de_int da_nil))) (da_cons (de_lst da_nil) da_nil))) (by rfl))
  (dss_cons (ds_for ow (cx.calm rfl) (di_rng1 cx
  (by rfl) (de_bin de_int (de_call cc (i := 18) (by rfl) (by rfl) cx room tk (by rfl) (da_cons (de_var (pv 0)) (da_cons (de_var (pv 2)) da_nil))))) (dg_name
  (pg_name (i := 6) cx.nd rfl (.inl rfl))) (dss_cons (ds_asg (de_ix cx (de_frzv (de_lst (da_cons (de_call cc (i := 18) (by rfl) (by rfl) cx room tk (by rfl)
  (da_cons (de_var (pv 0)) (da_cons de_int da_nil))) (da_cons (de_bin (de_bin (de_var (pv 4)) (de_biT cx m_int bi_int (by rfl) b_int (da_cons (de_cmp cx
  (de_call cc (i := 18) (by rfl) (by rfl) cx room tk (by rfl) (da_cons (de_var (pv 0)) (da_cons de_int da_nil))) de_int) da_nil))) de_int) (da_cons (de_var (pv
  4)) (da_cons (de_bin de_int (de_var (pv 4))) da_nil)))))) (de_var (pv 3))) (dgu_bind (dg_name (pg_name (i := 4) cx.nd rfl (.inl rfl)))))
  (dss_cons (ds_expr
  (de_mt mi_append (de_var (pv 5)) (da_cons (de_ix cx (de_var (pv 1)) (de_var (pv 4))) da_nil)))
  dss_nil)))
  (dss_cons (ds_ret (de_var (pv 5)))
  dss_nil)))
theorem at__law_packed (tx : Txt K mg w) (cc : Calls P w K mg base k nms kwt T C) : FnAt P w K mg base (k + 1) "_law_packed" 1 (kwt 22) (fun ds S => if ds.length = 1 then trim S (endR (run W C G bd__law_packed (startE 3 ds) S)) else .bad) := by
  obtain ⟨f, fdd, hm, ⟨_, F⟩, hb, hkb⟩ := tx.t__law_packed.ex
  refine def_ok (fd := fd__law_packed) (i := f__law_packed) (T := T) (C := C) (G := G) (n := W) tx.nob F sc__law_packed rfl rfl rfl hm hb hkb ?_
  intro cdv A outer s H E cx room tk ow
  have gok := fun y => GOk.kw (y := y) tx.gok
  exact (dss_cons (ds_asg (de_lst da_nil) (dgu_bind (dg_name (pg_name (i := 1) cx.nd rfl (.inl rfl)))))
  (dss_cons (ds_fz (i := 1) (ds_for ow (cx.calm rfl)
  (di_itr (de_var (pv 0))) (dg_name (pg_name (i := 2) cx.nd rfl (.inl rfl))) (dss_cons (ds_if (dw_and (dt_cmp cx (de_var (pv 1)) (de_frzv (de_lst da_nil)))
  (dw_one_and (dt_cmp cx (de_ix cx (de_ix cx (de_var (pv 1)) (de_neg de_int)) de_int) (de_var (pv 2))))).pt (dss_cons (ds_asg (de_tup (da_cons (de_var (pv 2))
  (da_cons (de_bin (de_ix cx (de_ix cx (de_var (pv 1)) (de_neg de_int)) de_int) de_int) da_nil))) (dgu_ix cx (de_var (pv 1)) (de_neg de_int)))
  dss_nil)
  (dss_cons (ds_expr (de_mt mi_append (de_var (pv 1)) (da_cons (de_tup (da_cons (de_var (pv 2)) (da_cons de_int da_nil))) da_nil)))
  dss_nil))
  dss_nil)))
  (dss_cons (ds_ret (de_biT cx m_tuple bi_tuple (by rfl) b_tuple (da_cons (de_var (pv 1)) da_nil)))
  dss_nil)))
theorem at__law_city_of (tx : Txt K mg w) (cc : Calls P w K mg base k nms kwt T C) : FnAt P w K mg base (k + 1) "_law_city_of" 2 (kwt 23) (fun ds S => if ds.length = 2 then trim S (endR (run W C G bd__law_city_of (startE 2 ds) S)) else .bad) := by
  obtain ⟨f, fdd, hm, ⟨_, F⟩, hb, hkb⟩ := tx.t__law_city_of.ex
  refine def_ok (fd := fd__law_city_of) (i := f__law_city_of) (T := T) (C := C) (G := G) (n := W) tx.nob F sc__law_city_of rfl rfl rfl hm hb hkb ?_
  intro cdv A outer s H E cx room tk ow
  have gok := fun y => GOk.kw (y := y) tx.gok
  exact (dss_cons (ds_ret (de_tup (da_cons (de_call cc (i := 22) (by rfl) (by rfl) cx room tk (by rfl) (da_cons (de_var (pv 0)) da_nil)) (da_cons (de_call cc
  (i := 22) (by rfl) (by rfl) cx room tk (by rfl) (da_cons (de_var (pv 1)) da_nil)) da_nil))))
  dss_nil)
theorem at__law_turned (tx : Txt K mg w) (cc : Calls P w K mg base k nms kwt T C) : FnAt P w K mg base (k + 1) "_law_turned" 2 (kwt 24) (fun ds S => if ds.length = 2 then trim S (endR (run W C G bd__law_turned (startE 11 ds) S)) else .bad) := by
  obtain ⟨f, fdd, hm, ⟨_, F⟩, hb, hkb⟩ := tx.t__law_turned.ex
  refine def_ok (fd := fd__law_turned) (i := f__law_turned) (T := T) (C := C) (G := G) (n := W) tx.nob F sc__law_turned rfl rfl rfl hm hb hkb ?_
  intro cdv A outer s H E cx room tk ow
  have gok := fun y => GOk.kw (y := y) tx.gok
  exact (dss_cons (ds_asg (de_tup (da_cons (de_frzv (de_lst da_nil)) (da_cons de_int da_nil))) (dgu_bind (dg_tup (cx.calm rfl) (dgs_cons (dg_name (pg_name (i
  := 2) cx.nd rfl (.inl rfl))) (dgs_cons (dg_name (pg_name (i := 3) cx.nd rfl (.inr rfl))) dgs_nil)))))
  (dss_cons (ds_for ow (cx.calm rfl) (di_itr (de_var
  (pv 0))) (dg_tup (cx.calm rfl) (dgs_cons (dg_name (pg_name (i := 4) cx.nd rfl (.inl rfl))) (dgs_cons (dg_name (pg_name (i := 5) cx.nd rfl (.inr rfl)))
  dgs_nil))) (dss_cons (ds_asg (de_frzv (de_bin (de_frzv (de_bin (de_var (pv 2)) (de_frzv (de_lst (da_cons (de_var (pv 3)) da_nil))))) (de_frzv (de_lc (own :=
  [("_law_number", 10)]) cx (di_itr (de_var (pv 1))) (blkOk_by (own := [("_law_number", 10)]) (N := nm__law_turned) (sc := defScope s__law_turned)
  (by decide +kernel)) (fun _ _ _ _ _ => (dg_name (pg_name (i := 10) (cx.blk _ _ _ _ _).nd rfl (.inl rfl)))) (fun _ _ _ _ _ => (dts_one (dt_cmp2 (cx.blk _ _ _
  _ _) (de_var (pv 3)) (de_var (pv 10)) (de_bin (de_var (pv 3)) (de_var (pv 5)))))) (fun _ _ _ _ _ => (de_var (pv 10))) (by decide))))) (dgu_bind (dg_name
  (pg_name (i := 2) cx.nd rfl (.inl rfl)))))
  (dss_cons (ds_asg (de_frzv (de_bin (de_var (pv 2)) (de_frzv (de_lc (own := [("_law_number", 10)]) cx (di_itr
  (de_var (pv 1))) (blkOk_by (own := [("_law_number", 10)]) (N := nm__law_turned) (sc := defScope s__law_turned) (by decide +kernel)) (fun _ _ _ _ _ =>
  (dg_name (pg_name (i := 10) (cx.blk _ _ _ _ _).nd rfl (.inl rfl)))) (fun _ _ _ _ _ => (dts_one (dt_cmp2 (cx.blk _ _ _ _ _) (de_var (pv 3)) (de_var (pv 10))
  (de_bin (de_var (pv 3)) (de_var (pv 5)))))) (fun _ _ _ _ _ => (de_bin (de_var (pv 10)) de_int)) (by decide))))) (dgu_bind (dg_name (pg_name (i := 2) cx.nd
  rfl (.inl rfl)))))
  (dss_cons (ds_asg (de_bin (de_var (pv 3)) (de_var (pv 5))) (dgu_bind (dg_name (pg_name (i := 3) cx.nd rfl (.inr rfl)))))
  dss_nil))))
  (dss_cons (ds_asg (de_frzv (de_ssrt cx (by rfl) (by rfl) (de_frzv (de_bin (de_var (pv 2)) (de_frzv (de_lst (da_cons (de_var (pv 3)) da_nil))))))) (dgu_bind
  (dg_name (pg_name (i := 6) cx.nd rfl (.inl rfl)))))
  (dss_cons (ds_asg (de_lst da_nil) (dgu_bind (dg_name (pg_name (i := 7) cx.nd rfl (.inl rfl)))))
  (dss_cons (ds_fz (i := 7) (ds_for ow (cx.calm rfl) (di_zip2 cx (by rfl) (de_var (pv 6)) (de_frzv (de_sl (de_var (pv 6)) (dp_some de_int) dp_none))) (dg_tup
  (cx.calm rfl) (dgs_cons (dg_name (pg_name (i := 8) cx.nd rfl (.inl rfl))) (dgs_cons (dg_name (pg_name (i := 9) cx.nd rfl (.inl rfl))) dgs_nil))) (dss_cons
  (ds_asg (de_call cc (i := 25) (by rfl) (by rfl) cx room tk (by rfl) (da_cons (de_var (pv 0)) (da_cons (de_var (pv 8)) da_nil))) (dgu_bind (dg_name (pg_name
  (i := 4) cx.nd rfl (.inl rfl)))))
  (dss_cons (ds_if (dt_cmp cx (de_var (pv 8)) (de_var (pv 1))) (dss_cons (ds_asg (de_ix cx (de_frzv (de_dd (dpp_cons de_str
  de_str (dpp_cons de_str de_str (dpp_cons de_str de_str (dpp_cons de_str de_str dpp_nil)))))) (de_var (pv 4))) (dgu_bind (dg_name (pg_name (i := 4) cx.nd rfl
  (.inl rfl)))))
  dss_nil) dss_nil)
  (dss_cons (ds_if (dw_and (dt_cmp cx (de_var (pv 7)) (de_frzv (de_lst da_nil))) (dw_one_and (dt_cmp cx (de_ix cx (de_ix
  cx (de_var (pv 7)) (de_neg de_int)) de_int) (de_var (pv 4))))).pt (dss_cons (ds_asg (de_tup (da_cons (de_var (pv 4)) (da_cons (de_bin (de_bin (de_ix cx
  (de_ix cx (de_var (pv 7)) (de_neg de_int)) de_int) (de_var (pv 9))) (de_var (pv 8))) da_nil))) (dgu_ix cx (de_var (pv 7)) (de_neg de_int)))
  dss_nil)
  (dss_cons (ds_expr (de_mt mi_append (de_var (pv 7)) (da_cons (de_tup (da_cons (de_var (pv 4)) (da_cons (de_bin (de_var (pv 9)) (de_var (pv 8))) da_nil)))
  da_nil)))
  dss_nil))
  dss_nil)))))
  (dss_cons (ds_ret (de_biT cx m_tuple bi_tuple (by rfl) b_tuple (da_cons (de_var (pv 7)) da_nil)))
  dss_nil))))))
theorem at__law_sign (tx : Txt K mg w) (cc : Calls P w K mg base k nms kwt T C) : FnAt P w K mg base (k + 1) "_law_sign" 2 (kwt 25) (fun ds S => if ds.length = 2 then trim S (endR (run W C G bd__law_sign (startE 5 ds) S)) else .bad) := by
  obtain ⟨f, fdd, hm, ⟨_, F⟩, hb, hkb⟩ := tx.t__law_sign.ex
  refine def_ok (fd := fd__law_sign) (i := f__law_sign) (T := T) (C := C) (G := G) (n := W) tx.nob F sc__law_sign rfl rfl rfl hm hb hkb ?_
  intro cdv A outer s H E cx room tk ow
  have gok := fun y => GOk.kw (y := y) tx.gok
  exact (dss_cons (ds_asg (de_var (pv 1)) (dgu_bind (dg_name (pg_name (i := 2) cx.nd rfl (.inl rfl)))))
  (dss_cons (ds_for ow (cx.calm rfl) (di_itr (de_var
  (pv 0))) (dg_tup (cx.calm rfl) (dgs_cons (dg_name (pg_name (i := 3) cx.nd rfl (.inl rfl))) (dgs_cons (dg_name (pg_name (i := 4) cx.nd rfl (.inl rfl)))
  dgs_nil))) (dss_cons (ds_if (dt_cmp cx (de_var (pv 2)) (de_var (pv 4))) (dss_cons (ds_ret (de_var (pv 3)))
  dss_nil) dss_nil)
  (dss_cons (ds_asg (de_bin
  (de_var (pv 2)) (de_var (pv 4))) (dgu_bind (dg_name (pg_name (i := 2) cx.nd rfl (.inl rfl)))))
  dss_nil)))
  (dss_cons (ds_ret de_str)
  dss_nil)))
theorem at__law_some (tx : Txt K mg w) (cc : Calls P w K mg base k nms kwt T C) : FnAt P w K mg base (k + 1) "_law_some" 4 (kwt 26) (fun ds S => if ds.length = 4 then trim S (endR (run W C G bd__law_some (startE 11 ds) S)) else .bad) := by
  obtain ⟨f, fdd, hm, ⟨_, F⟩, hb, hkb⟩ := tx.t__law_some.ex
  refine def_ok (fd := fd__law_some) (i := f__law_some) (T := T) (C := C) (G := G) (n := W) tx.nob F sc__law_some rfl rfl rfl hm hb hkb ?_
  intro cdv A outer s H E cx room tk ow
  have gok := fun y => GOk.kw (y := y) tx.gok
  exact (dss_cons (ds_asg (de_tup (da_cons (de_frzv (de_lst da_nil)) (da_cons de_int da_nil))) (dgu_bind (dg_tup (cx.calm rfl) (dgs_cons (dg_name (pg_name (i
  := 4) cx.nd rfl (.inl rfl))) (dgs_cons (dg_name (pg_name (i := 5) cx.nd rfl (.inr rfl))) dgs_nil)))))
  (dss_cons (ds_for ow (cx.calm rfl) (di_itr (de_var
  (pv 1))) (dg_tup (cx.calm rfl) (dgs_cons (dg_name (pg_name (i := 6) cx.nd rfl (.inl rfl))) (dgs_cons (dg_name (pg_name (i := 7) cx.nd rfl (.inl rfl)))
  dgs_nil))) (dss_cons (ds_asg (de_frzv (de_bin (de_var (pv 4)) (de_frzv (de_lst (da_cons (de_var (pv 5)) (da_cons (de_bin (de_bin (de_var (pv 5)) (de_var (pv
  7))) de_int) (da_cons (de_bin (de_var (pv 5)) (de_biB cx m_min (bi_min (cx.calm rfl)) (by rfl) b_min (da_cons de_int (da_cons (de_bin (de_var (pv 7)) de_int)
  da_nil)))) da_nil))))))) (dgu_bind (dg_name (pg_name (i := 4) cx.nd rfl (.inl rfl)))))
  (dss_cons (ds_asg (de_bin (de_var (pv 5)) (de_var (pv 7))) (dgu_bind
  (dg_name (pg_name (i := 5) cx.nd rfl (.inr rfl)))))
  dss_nil)))
  (dss_cons (ds_asg (de_frzv (de_bin (de_var (pv 4)) (de_frzv (de_lc (own := [("_law_step",
  8)]) cx (di_rng1 cx (by rfl) de_int) (blkOk_by (own := [("_law_step", 8)]) (N := nm__law_some) (sc := defScope s__law_some) (by decide +kernel)) (fun _ _ _ _
  _ => (dg_name (pg_name (i := 8) (cx.blk _ _ _ _ _).nd rfl (.inl rfl)))) (fun _ _ _ _ _ => dts_nil) (fun _ _ _ _ _ => (de_call cc (i := 18) (by rfl) (by rfl)
  (cx.blk _ _ _ _ _) room takes0 (by rfl) (da_cons (de_var (pv 0)) (da_cons (de_var (pv 5)) da_nil)))) (by decide))))) (dgu_bind (dg_name (pg_name (i := 4)
  cx.nd rfl (.inl rfl)))))
  (dss_cons (ds_asg (de_lst da_nil) (dgu_bind (dg_name (pg_name (i := 9) cx.nd rfl (.inl rfl)))))
  (dss_cons (ds_fz (i := 9)
  (ds_for ow (cx.calm rfl) (di_rng1 cx (by rfl) (de_call cc (i := 18) (by rfl) (by rfl) cx room tk (by rfl) (da_cons (de_var (pv 0)) (da_cons (de_bin (de_var
  (pv 3)) de_int) da_nil)))) (dg_name (pg_name (i := 8) cx.nd rfl (.inl rfl))) (dss_cons (ds_asg (de_ix cx (de_var (pv 4)) (de_call cc (i := 18) (by rfl)
  (by rfl) cx room tk (by rfl) (da_cons (de_var (pv 0)) (da_cons (de_biB cx m_len bi_len (by rfl) b_len (da_cons (de_var (pv 4)) da_nil)) da_nil)))) (dgu_bind
  (dg_name (pg_name (i := 10) cx.nd rfl (.inl rfl)))))
  (dss_cons (ds_if (dt_cmp cx (de_tup (da_cons (de_var (pv 2)) (da_cons (de_var (pv 10)) da_nil)))
  (de_var (pv 9))) (dss_cons (ds_expr (de_mt mi_append (de_var (pv 9)) (da_cons (de_tup (da_cons (de_var (pv 2)) (da_cons (de_var (pv 10)) da_nil))) da_nil)))
   dss_nil) dss_nil)
  dss_nil))))
  (dss_cons (ds_ret (de_frzv (de_var (pv 9))))
  dss_nil))))))
theorem at__law_right (tx : Txt K mg w) (cc : Calls P w K mg base k nms kwt T C) : FnAt P w K mg base (k + 1) "_law_right" 2 (kwt 27) (fun ds S => if ds.length = 2 then trim S (endR (run W C G bd__law_right (startE 12 ds) S)) else .bad) := by
  obtain ⟨f, fdd, hm, ⟨_, F⟩, hb, hkb⟩ := tx.t__law_right.ex
  refine def_ok (fd := fd__law_right) (i := f__law_right) (T := T) (C := C) (G := G) (n := W) tx.nob F sc__law_right rfl rfl rfl hm hb hkb ?_
  intro cdv A outer s H E cx room tk ow
  have gok := fun y => GOk.kw (y := y) tx.gok
  exact (dss_cons (ds_asg (de_bin (de_call cc (i := 26) (by rfl) (by rfl) cx room tk (by rfl) (da_cons (de_var (pv 0)) (da_cons (de_ix cx (de_var (pv 1))
  de_int) (da_cons de_str (da_cons de_int da_nil))))) (de_call cc (i := 26) (by rfl) (by rfl) cx room tk (by rfl) (da_cons (de_var (pv 0)) (da_cons (de_ix cx
  (de_var (pv 1)) de_int) (da_cons de_str (da_cons de_int da_nil)))))) (dgu_bind (dg_name (pg_name (i := 2) cx.nd rfl (.inr rfl)))))
  (dss_cons (ds_asg (de_lc
  (own := [("_law_step", 9)]) cx (di_rng1 cx (by rfl) (de_biB cx m_len bi_len (by rfl) b_len (da_cons (de_var (pv 2)) da_nil))) (blkOk_by (own :=
  [("_law_step", 9)]) (N := nm__law_right) (sc := defScope s__law_right) (by decide +kernel)) (fun _ _ _ _ _ => (dg_name (pg_name (i := 9) (cx.blk _ _ _ _
  _).nd rfl (.inl rfl)))) (fun _ _ _ _ _ => dts_nil) (fun _ _ _ _ _ => (de_mt mi_popAt (de_var (pv 2)) (da_cons (de_call cc (i := 18) (by rfl) (by rfl) (cx.blk
  _ _ _ _ _) room takes0 (by rfl) (da_cons (de_var (pv 0)) (da_cons (de_biB (cx.blk _ _ _ _ _) m_len bi_len (by rfl) b_len (da_cons (de_var (pv 2)) da_nil))
  da_nil))) da_nil))) (by decide)) (dgu_bind (dg_name (pg_name (i := 2) cx.nd rfl (.inr rfl)))))
  (dss_cons (ds_for ow (cx.calm rfl) (di_rng1 cx (by rfl)
  de_int) (dg_name (pg_name (i := 3) cx.nd rfl (.inl rfl))) (dss_cons (ds_asg (de_biB cx m_repr (bi_repr cx) (by rfl) b_repr (da_cons (de_frzv (de_lst (da_cons
  (de_var (pv 1)) (da_cons (de_var (pv 2)) da_nil)))) da_nil)) (dgu_bind (dg_name (pg_name (i := 4) cx.nd rfl (.inl rfl)))))
  (dss_cons (ds_fz (i := 5)
  (ds_setLc (i := 5) (own := [("_law_word", 10), ("_law_number", 11)]) cx rfl rfl (sw_true rfl rfl rfl (by decide +kernel)) (di_itr (de_var (pv 2))) (blkOk_by
  (own := [("_law_word", 10), ("_law_number", 11)]) (N := nm__law_right) (sc := defScope s__law_right) (by decide +kernel)) (fun _ _ _ _ _ => (dg_tup ((cx.blk
  _ _ _ _ _).calm rfl) (dgs_cons (dg_name (pg_name (i := 10) (cx.blk _ _ _ _ _).nd rfl (.inl rfl))) (dgs_cons (dg_name (pg_name (i := 11) (cx.blk _ _ _ _ _).nd
  rfl (.inl rfl))) dgs_nil)))) (fun _ _ _ _ _ => (dts_one (dt_cmp (cx.blk _ _ _ _ _) (de_var (pv 10)) de_str))) (fun _ _ _ _ _ => (de_var (pv 11)))
  (by decide)))
  (dss_cons (ds_fz (i := 6) (ds_setLc (i := 6) (own := [("_law_word", 10), ("_law_number", 11)]) cx rfl rfl (sw_true rfl rfl rfl
  (by decide +kernel)) (di_itr (de_var (pv 2))) (blkOk_by (own := [("_law_word", 10), ("_law_number", 11)]) (N := nm__law_right) (sc := defScope s__law_right)
  (by decide +kernel)) (fun _ _ _ _ _ => (dg_tup ((cx.blk _ _ _ _ _).calm rfl) (dgs_cons (dg_name (pg_name (i := 10) (cx.blk _ _ _ _ _).nd rfl (.inl rfl)))
  (dgs_cons (dg_name (pg_name (i := 11) (cx.blk _ _ _ _ _).nd rfl (.inl rfl))) dgs_nil)))) (fun _ _ _ _ _ => (dts_one (dt_cmp (cx.blk _ _ _ _ _) (de_var (pv
  10)) de_str))) (fun _ _ _ _ _ => (de_var (pv 11))) (by decide)))
  (dss_cons (ds_asg (de_tup (da_cons (de_call cc (i := 24) (by rfl) (by rfl) cx room tk
  (by rfl) (da_cons (de_ix cx (de_var (pv 1)) de_int) (da_cons (de_var (pv 5)) da_nil))) (da_cons (de_call cc (i := 24) (by rfl) (by rfl) cx room tk (by rfl)
  (da_cons (de_ix cx (de_var (pv 1)) de_int) (da_cons (de_var (pv 6)) da_nil))) da_nil))) (dgu_bind (dg_name (pg_name (i := 7) cx.nd rfl (.inl rfl)))))
  (dss_cons (ds_asg (de_call cc (i := 16) (by rfl) (by rfl) cx room tk (by rfl) (da_cons (de_var (pv 1)) (da_cons (de_var (pv 2)) da_nil))) (dgu_bind (dg_name
  (pg_name (i := 8) cx.nd rfl (.inl rfl)))))
  (dss_cons (ds_if (dw_or (dt_cmp cx (de_var (pv 8)) (de_var (pv 7))) (dw_or (dt_cmp cx (de_callk0 (q := (0,
  ["streets", "city"], [1, 0])) cc (i := 16) (j := 0) (by rfl) (by rfl) (by rfl) cx room tk (by rfl) (dk_cons (de_var (pv 2)) (dk_cons (de_var (pv 1))
  dk_nil))) (de_var (pv 7))) (dw_one_or (dt_nt (dt_tru (de_call cc (i := 3) (by rfl) (by rfl) cx room tk (by rfl) (da_cons (de_var (pv 8)) da_nil))))))).pt
  (dss_cons (ds_ret de_bl)
  dss_nil) dss_nil)
  (dss_cons (ds_if (dw_or (dt_cmp cx (de_call cc (i := 16) (by rfl) (by rfl) cx room tk (by rfl) (da_cons
  (de_var (pv 8)) (da_cons (de_frzv (de_rev (de_var (pv 2)))) da_nil))) (de_var (pv 1))) (dw_one_or (dt_cmp cx (de_biB cx m_repr (bi_repr cx) (by rfl) b_repr
  (da_cons (de_frzv (de_lst (da_cons (de_var (pv 1)) (da_cons (de_var (pv 2)) da_nil)))) da_nil)) (de_var (pv 4))))).pt (dss_cons (ds_ret de_bl)
  dss_nil)
  dss_nil)
  (dss_cons (ds_asg (de_lst da_nil) (dgu_sl (de_var (pv 2)) (dp_some (de_bin (de_biB cx m_len bi_len (by rfl) b_len (da_cons (de_var (pv 2))
  da_nil)) de_int)) dp_none))
  dss_nil)))))))))
  (dss_cons (ds_ret de_bl)
  dss_nil))))
theorem at__law_small_right (tx : Txt K mg w) (cc : Calls P w K mg base k nms kwt T C) : FnAt P w K mg base (k + 1) "_law_small_right" 1 (kwt 28) (fun ds S => if ds.length = 1 then trim S (endR (run W C G bd__law_small_right (startE 7 ds) S)) else .bad) := by
  obtain ⟨f, fdd, hm, ⟨_, F⟩, hb, hkb⟩ := tx.t__law_small_right.ex
  refine def_ok (fd := fd__law_small_right) (i := f__law_small_right) (T := T) (C := C) (G := G) (n := W) tx.nob F sc__law_small_right rfl rfl rfl hm hb hkb ?_
  intro cdv A outer s H E cx room tk ow
  have gok := fun y => GOk.kw (y := y) tx.gok
  exact (dss_cons (ds_asg (de_lst (da_cons (de_call cc (i := 21) (by rfl) (by rfl) cx room tk (by rfl) (da_cons (de_var (pv 0)) (da_cons de_str (da_cons de_int
  da_nil)))) (da_cons (de_call cc (i := 21) (by rfl) (by rfl) cx room tk (by rfl) (da_cons (de_var (pv 0)) (da_cons de_str (da_cons de_int da_nil)))) da_nil)))
  (dgu_bind (dg_name (pg_name (i := 1) cx.nd rfl (.inl rfl)))))
  (dss_cons (ds_asg (de_call cc (i := 23) (by rfl) (by rfl) cx room tk (by rfl) (da_cons (de_ix
  cx (de_var (pv 1)) de_int) (da_cons (de_ix cx (de_var (pv 1)) de_int) da_nil))) (dgu_bind (dg_name (pg_name (i := 2) cx.nd rfl (.inl rfl)))))
  (dss_cons
  (ds_asg (de_bin (de_call cc (i := 26) (by rfl) (by rfl) cx room tk (by rfl) (da_cons (de_var (pv 0)) (da_cons (de_ix cx (de_var (pv 2)) de_int) (da_cons
  de_str (da_cons de_int da_nil))))) (de_call cc (i := 26) (by rfl) (by rfl) cx room tk (by rfl) (da_cons (de_var (pv 0)) (da_cons (de_ix cx (de_var (pv 2))
  de_int) (da_cons de_str (da_cons de_int da_nil)))))) (dgu_bind (dg_name (pg_name (i := 3) cx.nd rfl (.inl rfl)))))
  (dss_cons (ds_for ow (cx.calm rfl)
  (di_itr (de_var (pv 3))) (dg_tup (cx.calm rfl) (dgs_cons (dg_name (pg_name (i := 4) cx.nd rfl (.inl rfl))) (dgs_cons (dg_name (pg_name (i := 5) cx.nd rfl
  (.inl rfl))) dgs_nil))) (dss_cons (ds_asg (de_ix cx (de_var (pv 1)) (de_biT cx m_int bi_int (by rfl) b_int (da_cons (de_cmp cx (de_var (pv 4)) de_str)
  da_nil))) (dgu_bind (dg_name (pg_name (i := 6) cx.nd rfl (.inl rfl)))))
  (dss_cons (ds_asg (de_ix cx (de_frzv (de_dd (dpp_cons de_str de_str (dpp_cons
  de_str de_str (dpp_cons de_str de_str (dpp_cons de_str de_str dpp_nil)))))) (de_ix cx (de_var (pv 6)) (de_var (pv 5)))) (dgu_ix cx (de_var (pv 6)) (de_var
  (pv 5))))
  dss_nil)))
  (dss_cons (ds_ret (de_cmp cx (de_call cc (i := 16) (by rfl) (by rfl) cx room tk (by rfl) (da_cons (de_var (pv 2)) (da_cons (de_var
  (pv 3)) da_nil))) (de_call cc (i := 23) (by rfl) (by rfl) cx room tk (by rfl) (da_cons (de_ix cx (de_var (pv 1)) de_int) (da_cons (de_ix cx (de_var (pv 1))
  de_int) da_nil)))))
  dss_nil)))))
theorem at__law_large_right (tx : Txt K mg w) (cc : Calls P w K mg base k nms kwt T C) : FnAt P w K mg base (k + 1) "_law_large_right" 1 (kwt 29) (fun ds S => if ds.length = 1 then trim S (endR (run W C G bd__law_large_right (startE 15 ds) S)) else .bad) := by
  obtain ⟨f, fdd, hm, ⟨_, F⟩, hb, hkb⟩ := tx.t__law_large_right.ex
  refine def_ok (fd := fd__law_large_right) (i := f__law_large_right) (T := T) (C := C) (G := G) (n := W) tx.nob F sc__law_large_right rfl rfl rfl hm hb hkb ?_
  intro cdv A outer s H E cx room tk ow
  have gok := fun y => GOk.kw (y := y) tx.gok
  exact (dss_cons (ds_asg (de_call cc (i := 20) (by rfl) (by rfl) cx room tk (by rfl) (da_cons (de_var (pv 0)) (da_cons de_int (da_cons (de_ix cx (de_frzv
  (de_lst (da_cons de_int (da_cons de_int da_nil)))) (de_call cc (i := 18) (by rfl) (by rfl) cx room tk (by rfl) (da_cons (de_var (pv 0)) (da_cons de_int
  da_nil)))) da_nil)))) (dgu_bind (dg_name (pg_name (i := 1) cx.nd rfl (.inl rfl)))))
  (dss_cons (ds_asg (de_lst da_nil) (dgu_bind (dg_name (pg_name (i := 2)
  cx.nd rfl (.inr rfl)))))
  (dss_cons (ds_for ow (cx.calm rfl) (di_enum cx (by rfl) (de_frzv (de_lst (da_cons de_str (da_cons de_str da_nil))))) (dg_tup
  (cx.calm rfl) (dgs_cons (dg_name (pg_name (i := 3) cx.nd rfl (.inl rfl))) (dgs_cons (dg_name (pg_name (i := 4) cx.nd rfl (.inl rfl))) dgs_nil))) (dss_cons
  (ds_asg (de_biB cx m_sum (bi_sum (cx.calm rfl)) (by rfl) b_sum (da_cons (de_frzv (de_lc (own := [("_law_sign_here", 13), ("_law_many", 14)]) cx (di_itr
  (de_ix cx (de_var (pv 1)) (de_var (pv 3)))) (blkOk_by (own := [("_law_sign_here", 13), ("_law_many", 14)]) (N := nm__law_large_right) (sc := defScope
  s__law_large_right) (by decide +kernel)) (fun _ _ _ _ _ => (dg_tup ((cx.blk _ _ _ _ _).calm rfl) (dgs_cons (dg_name (pg_name (i := 13) (cx.blk _ _ _ _ _).nd
  rfl (.inl rfl))) (dgs_cons (dg_name (pg_name (i := 14) (cx.blk _ _ _ _ _).nd rfl (.inl rfl))) dgs_nil)))) (fun _ _ _ _ _ => dts_nil) (fun _ _ _ _ _ =>
  (de_var (pv 14))) (by decide))) da_nil)) (dgu_bind (dg_name (pg_name (i := 5) cx.nd rfl (.inl rfl)))))
  (dss_cons (ds_asg (de_lrg cx (by rfl) (by rfl)
  (de_biB cx m_min (bi_min (cx.calm rfl)) (by rfl) b_min (da_cons (de_var (pv 5)) (da_cons de_int da_nil)))) (dgu_bind (dg_name (pg_name (i := 6) cx.nd rfl
  (.inl rfl)))))
  (dss_cons (ds_for ow (cx.calm rfl) (di_rng1 cx (by rfl) (de_biB cx m_min (bi_min (cx.calm rfl)) (by rfl) b_min (da_cons (de_biB cx m_len
  bi_len (by rfl) b_len (da_cons (de_var (pv 6)) da_nil)) (da_cons (de_ix cx (de_frzv (de_lst (da_cons de_int (da_cons (de_call cc (i := 18) (by rfl) (by rfl)
  cx room tk (by rfl) (da_cons (de_var (pv 0)) (da_cons de_int da_nil))) da_nil)))) (de_call cc (i := 18) (by rfl) (by rfl) cx room tk (by rfl) (da_cons
  (de_var (pv 0)) (da_cons de_int da_nil)))) da_nil)))) (dg_name (pg_name (i := 7) cx.nd rfl (.inl rfl))) (dss_cons (ds_expr (de_mt mi_append (de_var (pv 2))
  (da_cons (de_tup (da_cons (de_var (pv 4)) (da_cons (de_mt mi_popAt (de_var (pv 6)) (da_cons (de_call cc (i := 18) (by rfl) (by rfl) cx room tk (by rfl)
  (da_cons (de_var (pv 0)) (da_cons (de_biB cx m_len bi_len (by rfl) b_len (da_cons (de_var (pv 6)) da_nil)) da_nil))) da_nil)) da_nil))) da_nil)))
  dss_nil))
  dss_nil))))
  (dss_cons (ds_fz (i := 2) (ds_asg (de_lc (own := [("_law_step", 7)]) cx (di_rng1 cx (by rfl) (de_biB cx m_len bi_len (by rfl) b_len
  (da_cons (de_var (pv 2)) da_nil))) (blkOk_by (own := [("_law_step", 7)]) (N := nm__law_large_right) (sc := defScope s__law_large_right) (by decide +kernel))
  (fun _ _ _ _ _ => (dg_name (pg_name (i := 7) (cx.blk _ _ _ _ _).nd rfl (.inl rfl)))) (fun _ _ _ _ _ => dts_nil) (fun _ _ _ _ _ => (de_mt mi_popAt (de_var (pv
  2)) (da_cons (de_call cc (i := 18) (by rfl) (by rfl) (cx.blk _ _ _ _ _) room takes0 (by rfl) (da_cons (de_var (pv 0)) (da_cons (de_biB (cx.blk _ _ _ _ _)
  m_len bi_len (by rfl) b_len (da_cons (de_var (pv 2)) da_nil)) da_nil))) da_nil))) (by decide)) (dgu_bind (dg_name (pg_name (i := 2) cx.nd rfl (.inr
  rfl))))))
  (dss_cons (ds_fz (i := 8) (ds_setLc (i := 8) (own := [("_law_word", 4), ("_law_number", 12)]) cx rfl rfl (sw_true rfl rfl rfl
  (by decide +kernel)) (di_itr (de_var (pv 2))) (blkOk_by (own := [("_law_word", 4), ("_law_number", 12)]) (N := nm__law_large_right) (sc := defScope
  s__law_large_right) (by decide +kernel)) (fun _ _ _ _ _ => (dg_tup ((cx.blk _ _ _ _ _).calm rfl) (dgs_cons (dg_name (pg_name (i := 4) (cx.blk _ _ _ _ _).nd
  rfl (.inl rfl))) (dgs_cons (dg_name (pg_name (i := 12) (cx.blk _ _ _ _ _).nd rfl (.inl rfl))) dgs_nil)))) (fun _ _ _ _ _ => (dts_one (dt_cmp (cx.blk _ _ _ _
  _) (de_var (pv 4)) de_str))) (fun _ _ _ _ _ => (de_var (pv 12))) (by decide)))
  (dss_cons (ds_fz (i := 9) (ds_setLc (i := 9) (own := [("_law_word", 4),
  ("_law_number", 12)]) cx rfl rfl (sw_true rfl rfl rfl (by decide +kernel)) (di_itr (de_var (pv 2))) (blkOk_by (own := [("_law_word", 4), ("_law_number",
  12)]) (N := nm__law_large_right) (sc := defScope s__law_large_right) (by decide +kernel)) (fun _ _ _ _ _ => (dg_tup ((cx.blk _ _ _ _ _).calm rfl) (dgs_cons
  (dg_name (pg_name (i := 4) (cx.blk _ _ _ _ _).nd rfl (.inl rfl))) (dgs_cons (dg_name (pg_name (i := 12) (cx.blk _ _ _ _ _).nd rfl (.inl rfl))) dgs_nil))))
  (fun _ _ _ _ _ => (dts_one (dt_cmp (cx.blk _ _ _ _ _) (de_var (pv 4)) de_str))) (fun _ _ _ _ _ => (de_var (pv 12))) (by decide)))
  (dss_cons (ds_asg (de_tup
  (da_cons (de_call cc (i := 24) (by rfl) (by rfl) cx room tk (by rfl) (da_cons (de_ix cx (de_var (pv 1)) de_int) (da_cons (de_var (pv 8)) da_nil))) (da_cons
  (de_call cc (i := 24) (by rfl) (by rfl) cx room tk (by rfl) (da_cons (de_ix cx (de_var (pv 1)) de_int) (da_cons (de_var (pv 9)) da_nil))) da_nil))) (dgu_bind
  (dg_name (pg_name (i := 10) cx.nd rfl (.inl rfl)))))
  (dss_cons (ds_asg (de_call cc (i := 16) (by rfl) (by rfl) cx room tk (by rfl) (da_cons (de_var (pv 1))
  (da_cons (de_var (pv 2)) da_nil))) (dgu_bind (dg_name (pg_name (i := 11) cx.nd rfl (.inl rfl)))))
  (dss_cons (ds_ret (de_and (de_cmp cx (de_var (pv 11))
  (de_var (pv 10))) (de_and (de_call cc (i := 3) (by rfl) (by rfl) cx room tk (by rfl) (da_cons (de_var (pv 11)) da_nil)) (pe_one (de_cmp cx (de_call cc (i :=
  16) (by rfl) (by rfl) cx room tk (by rfl) (da_cons (de_var (pv 11)) (da_cons (de_var (pv 2)) da_nil))) (de_var (pv 1)))))))
  dss_nil)))))))))
theorem at__law_many_right (tx : Txt K mg w) (cc : Calls P w K mg base k nms kwt T C) : FnAt P w K mg base (k + 1) "_law_many_right" 1 (kwt 30) (fun ds S => if ds.length = 1 then trim S (endR (run W C G bd__law_many_right (startE 7 ds) S)) else .bad) := by
  obtain ⟨f, fdd, hm, ⟨_, F⟩, hb, hkb⟩ := tx.t__law_many_right.ex
  refine def_ok (fd := fd__law_many_right) (i := f__law_many_right) (T := T) (C := C) (G := G) (n := W) tx.nob F sc__law_many_right rfl rfl rfl hm hb hkb ?_
  intro cdv A outer s H E cx room tk ow
  have gok := fun y => GOk.kw (y := y) tx.gok
  exact (dss_cons (ds_asg (de_tup (da_cons (de_ix cx (de_frzv (de_lst (da_cons de_str (da_cons de_str da_nil)))) (de_var (pv 0))) (da_cons (de_ix cx (de_frzv
  (de_lst (da_cons de_str (da_cons de_str da_nil)))) (de_var (pv 0))) da_nil))) (dgu_bind (dg_tup (cx.calm rfl) (dgs_cons (dg_name (pg_name (i := 1) cx.nd rfl
  (.inr rfl))) (dgs_cons (dg_name (pg_name (i := 2) cx.nd rfl (.inr rfl))) dgs_nil)))))
  (dss_cons (ds_asg (de_frzv (de_lst (da_cons (de_tup (da_cons (de_tup
  (da_cons (de_ix cx (de_var (pv 2)) de_int) (da_cons de_int da_nil))) da_nil)) (da_cons (de_tup (da_cons (de_tup (da_cons (de_ix cx (de_ix cx (de_frzv (de_lst
  (da_cons de_str (da_cons de_str da_nil)))) (de_var (pv 0))) de_int) (da_cons de_int da_nil))) da_nil)) da_nil)))) (dgu_bind (dg_name (pg_name (i := 3) cx.nd
  rfl (.inl rfl)))))
  (dss_cons (ds_asg (de_biT cx m_tuple bi_tuple (by rfl) b_tuple (da_cons (de_ix cx (de_frzv (de_lst (da_cons (de_var (pv 3)) (da_cons
  (de_frzv (de_rev (de_var (pv 3)))) da_nil)))) (de_var (pv 0))) da_nil)) (dgu_bind (dg_name (pg_name (i := 3) cx.nd rfl (.inl rfl)))))
  (dss_cons (ds_fz (i
  := 4) (ds_setLc (i := 4) (own := [("_law_step", 6)]) cx rfl rfl (sw_true rfl rfl rfl (by decide +kernel)) (di_rng1 cx (by rfl) de_int) (blkOk_by (own :=
  [("_law_step", 6)]) (N := nm__law_many_right) (sc := defScope s__law_many_right) (by decide +kernel)) (fun _ _ _ _ _ => (dg_name (pg_name (i := 6) (cx.blk _
  _ _ _ _).nd rfl (.inl rfl)))) (fun _ _ _ _ _ => dts_nil) (fun _ _ _ _ _ => (de_tup (da_cons (de_var (pv 1)) (da_cons (de_bin de_int (de_var (pv 6)))
  da_nil)))) (by decide)))
  (dss_cons (ds_asg (de_call cc (i := 16) (by rfl) (by rfl) cx room tk (by rfl) (da_cons (de_var (pv 3)) (da_cons (de_var (pv 4))
  da_nil))) (dgu_bind (dg_name (pg_name (i := 5) cx.nd rfl (.inl rfl)))))
  (dss_cons (ds_if (dw_or (dt_cmp cx (de_ix cx (de_var (pv 5)) (de_var (pv 0)))
  (de_biT cx m_tuple bi_tuple (by rfl) b_tuple (da_cons (de_frzv (de_lc (own := [("_law_step", 6)]) cx (di_rng1 cx (by rfl) de_int) (blkOk_by (own :=
  [("_law_step", 6)]) (N := nm__law_many_right) (sc := defScope s__law_many_right) (by decide +kernel)) (fun _ _ _ _ _ => (dg_name (pg_name (i := 6) (cx.blk _
  _ _ _ _).nd rfl (.inl rfl)))) (fun _ _ _ _ _ => dts_nil) (fun _ _ _ _ _ => (de_tup (da_cons (de_ix (cx.blk _ _ _ _ _) (de_var (pv 2)) (de_bin de_int (de_bin
  (de_var (pv 6)) de_int))) (da_cons de_int da_nil)))) (by decide))) da_nil))) (dw_one_or (dt_cmp cx (de_ix cx (de_var (pv 5)) (de_bin de_int (de_var (pv 0))))
  (de_ix cx (de_var (pv 3)) (de_bin de_int (de_var (pv 0))))))).pt (dss_cons (ds_ret de_bl)
  dss_nil) dss_nil)
  (dss_cons (ds_if (dw_or (dt_nt (dt_tru
  (de_call cc (i := 3) (by rfl) (by rfl) cx room tk (by rfl) (da_cons (de_var (pv 5)) da_nil)))) (dw_one_or (dt_cmp cx (de_call cc (i := 11) (by rfl) (by rfl)
  cx room tk (by rfl) (da_cons (de_var (pv 5)) da_nil)) (de_ix cx (de_frzv (de_lst (da_cons (de_tup (da_cons de_int (da_cons de_int da_nil))) (da_cons (de_tup
  (da_cons de_int (da_cons de_int da_nil))) da_nil)))) (de_var (pv 0)))))).pt (dss_cons (ds_ret de_bl)
  dss_nil) dss_nil)
  (dss_cons (ds_if (dw_or (dt_cmp cx
  (de_call cc (i := 13) (by rfl) (by rfl) cx room tk (by rfl) (da_cons (de_var (pv 5)) (da_cons (de_tup (da_cons (de_var (pv 1)) (da_cons de_int da_nil)))
  da_nil))) (de_ix cx (de_var (pv 2)) de_int)) (dw_one_or (dt_cmp cx (de_call cc (i := 13) (by rfl) (by rfl) cx room tk (by rfl) (da_cons (de_var (pv 5))
  (da_cons (de_tup (da_cons (de_var (pv 1)) (da_cons de_int da_nil))) da_nil))) (de_ix cx (de_var (pv 2)) de_int)))).pt (dss_cons (ds_ret de_bl)
  dss_nil)
  dss_nil)
  (dss_cons (ds_ret (de_cmp cx (de_call cc (i := 16) (by rfl) (by rfl) cx room tk (by rfl) (da_cons (de_var (pv 5)) (da_cons (de_frzv (de_rev
  (de_var (pv 4)))) da_nil))) (de_var (pv 3))))
  dss_nil)))))))))
theorem at_law (tx : Txt K mg w) (cc : Calls P w K mg base k nms kwt T C) : FnAt P w K mg base (k + 1) "law" 1 (kwt 31) (fun ds S => if ds.length = 1 then trim S (endR (run W C G bd_law (startE 5 ds) S)) else .bad) := by
  obtain ⟨f, fdd, hm, ⟨_, F⟩, hb, hkb⟩ := tx.t_law.ex
  refine def_ok (fd := fd_law) (i := f_law) (T := T) (C := C) (G := G) (n := W) tx.nob F sc_law rfl rfl rfl hm hb hkb ?_
  intro cdv A outer s H E cx room tk ow
  have gok := fun y => GOk.kw (y := y) tx.gok
  exact (dss_cons (ds_for ow (cx.calm rfl) (di_rng1 cx (by rfl) (de_biB cx m_max (bi_max (cx.calm rfl)) (by rfl) b_max (da_cons de_int (da_cons (de_biB cx
  m_min (bi_min (cx.calm rfl)) (by rfl) b_min (da_cons de_int (da_cons (de_biB cx m_len bi_len (by rfl) b_len (da_cons (de_var (pv 0)) da_nil)) da_nil)))
  da_nil)))) (dg_name (pg_name (i := 1) cx.nd rfl (.inl rfl))) (dss_cons (ds_asg (de_call cc (i := 17) (by rfl) (by rfl) cx room tk (by rfl) (da_cons (de_var
  (pv 0)) (da_cons (de_var (pv 1)) da_nil))) (dgu_bind (dg_name (pg_name (i := 2) cx.nd rfl (.inl rfl)))))
  (dss_cons (ds_for ow (cx.calm rfl) (di_rng1 cx
  (by rfl) de_int) (dg_name (pg_name (i := 3) cx.nd rfl (.inl rfl))) (dss_cons (ds_if (dt_nt (dt_tru (de_call cc (i := 28) (by rfl) (by rfl) cx room tk
  (by rfl) (da_cons (de_var (pv 2)) da_nil)))) (dss_cons (ds_ret de_bl)
  dss_nil) dss_nil)
  (dss_cons (ds_if (dt_nt (dt_tru (de_call cc (i := 27) (by rfl)
  (by rfl) cx room tk (by rfl) (da_cons (de_var (pv 2)) (da_cons (de_call cc (i := 20) (by rfl) (by rfl) cx room tk (by rfl) (da_cons (de_var (pv 2)) (da_cons
  (de_ix cx (de_frzv (de_lst (da_cons de_int (da_cons de_int da_nil)))) (de_call cc (i := 18) (by rfl) (by rfl) cx room tk (by rfl) (da_cons (de_var (pv 2))
  (da_cons de_int da_nil)))) (da_cons (de_bin de_int de_int) da_nil)))) da_nil))))) (dss_cons (ds_ret de_bl)
  dss_nil) dss_nil)
  dss_nil)))
  (dss_cons
  (ds_if (dw_and (dt_cmp cx (de_var (pv 1)) de_int) (dw_one_and (dt_nt (dt_tru (de_call cc (i := 29) (by rfl) (by rfl) cx room tk (by rfl) (da_cons (de_var (pv
  2)) da_nil)))))).pt (dss_cons (ds_ret de_bl)
  dss_nil) dss_nil)
  dss_nil))))
  (dss_cons (ds_asg (de_tup (da_cons (de_tup (da_cons (de_tup (da_cons de_str
  (da_cons de_int da_nil))) da_nil)) (da_cons (de_tup (da_cons (de_tup (da_cons de_str (da_cons de_int da_nil))) da_nil)) da_nil))) (dgu_bind (dg_name (pg_name
  (i := 4) cx.nd rfl (.inl rfl)))))
  (dss_cons (ds_ret (de_and (de_cmp cx (de_call cc (i := 16) (by rfl) (by rfl) cx room tk (by rfl) (da_cons (de_var (pv 4))
  (da_cons (de_frzv (de_lst da_nil)) da_nil))) (de_var (pv 4))) (de_and (de_call cc (i := 30) (by rfl) (by rfl) cx room tk (by rfl) (da_cons de_int da_nil))
  (pe_one (de_call cc (i := 30) (by rfl) (by rfl) cx room tk (by rfl) (da_cons de_int da_nil))))))
  dss_nil)))
theorem calls_ok (tx : Txt K mg w) : ∀ k, Calls P w K mg base (k) nms kwt T (CF k)
  | 0 => ⟨fun i x fd hx hT => by
    match i, hx, hT with
    | 0, hx, hT => cases hx; cases hT; exact at_zero tx.t_is_integer (CF 0 0) (fun _ _ => rfl)
    | 1, hx, hT => cases hx; cases hT; exact at_zero tx.t_is_run (CF 0 1) (fun _ _ => rfl)
    | 2, hx, hT => cases hx; cases hT; exact at_zero tx.t_are_runs (CF 0 2) (fun _ _ => rfl)
    | 3, hx, hT => cases hx; cases hT; exact at_zero tx.t_is_city (CF 0 3) (fun _ _ => rfl)
    | 4, hx, hT => cases hx; cases hT; exact at_zero tx.t_check_city (CF 0 4) (fun _ _ => rfl)
    | 5, hx, hT => cases hx; cases hT; exact at_zero tx.t_count_streets (CF 0 5) (fun _ _ => rfl)
    | 6, hx, hT => cases hx; cases hT; exact at_zero tx.t_flipped (CF 0 6) (fun _ _ => rfl)
    | 7, hx, hT => cases hx; cases hT; exact at_zero tx.t_joined (CF 0 7) (fun _ _ => rfl)
    | 8, hx, hT => cases hx; cases hT; exact at_zero tx.t_street_run (CF 0 8) (fun _ _ => rfl)
    | 9, hx, hT => cases hx; cases hT; exact at_zero tx.t_is_street (CF 0 9) (fun _ _ => rfl)
    | 10, hx, hT => cases hx; cases hT; exact at_zero tx.t_check_street (CF 0 10) (fun _ _ => rfl)
    | 11, hx, hT => cases hx; cases hT; exact at_zero tx.t_grid_size (CF 0 11) (fun _ _ => rfl)
    | 12, hx, hT => cases hx; cases hT; exact at_zero tx.t_direction_of (CF 0 12) (fun _ _ => rfl)
    | 13, hx, hT => cases hx; cases hT; exact at_zero tx.t_street_direction (CF 0 13) (fun _ _ => rfl)
    | 14, hx, hT => cases hx; cases hT; exact at_zero tx.t_turned_runs (CF 0 14) (fun _ _ => rfl)
    | 15, hx, hT => cases hx; cases hT; exact at_zero tx.t_turned_city (CF 0 15) (fun _ _ => rfl)
    | 16, hx, hT => cases hx; cases hT; exact at_zero tx.t_reversed_city (CF 0 16) (fun _ _ => rfl)
    | 17, hx, hT => cases hx; cases hT; exact at_zero tx.t__law_source (CF 0 17) (fun _ _ => rfl)
    | 18, hx, hT => cases hx; cases hT; exact at_zero tx.t__law_draw (CF 0 18) (fun _ _ => rfl)
    | 19, hx, hT => cases hx; cases hT; exact at_zero tx.t__law_runs (CF 0 19) (fun _ _ => rfl)
    | 20, hx, hT => cases hx; cases hT; exact at_zero tx.t__law_town (CF 0 20) (fun _ _ => rfl)
    | 21, hx, hT => cases hx; cases hT; exact at_zero tx.t__law_streets (CF 0 21) (fun _ _ => rfl)
    | 22, hx, hT => cases hx; cases hT; exact at_zero tx.t__law_packed (CF 0 22) (fun _ _ => rfl)
    | 23, hx, hT => cases hx; cases hT; exact at_zero tx.t__law_city_of (CF 0 23) (fun _ _ => rfl)
    | 24, hx, hT => cases hx; cases hT; exact at_zero tx.t__law_turned (CF 0 24) (fun _ _ => rfl)
    | 25, hx, hT => cases hx; cases hT; exact at_zero tx.t__law_sign (CF 0 25) (fun _ _ => rfl)
    | 26, hx, hT => cases hx; cases hT; exact at_zero tx.t__law_some (CF 0 26) (fun _ _ => rfl)
    | 27, hx, hT => cases hx; cases hT; exact at_zero tx.t__law_right (CF 0 27) (fun _ _ => rfl)
    | 28, hx, hT => cases hx; cases hT; exact at_zero tx.t__law_small_right (CF 0 28) (fun _ _ => rfl)
    | 29, hx, hT => cases hx; cases hT; exact at_zero tx.t__law_large_right (CF 0 29) (fun _ _ => rfl)
    | 30, hx, hT => cases hx; cases hT; exact at_zero tx.t__law_many_right (CF 0 30) (fun _ _ => rfl)
    | 31, hx, hT => cases hx; cases hT; exact at_zero tx.t_law (CF 0 31) (fun _ _ => rfl)
    | n + 32, hx, hT => cases hx⟩
  | k + 1 => ⟨fun i x fd hx hT => by
    have cc := calls_ok tx k
    match i, hx, hT with
    | 0, hx, hT => cases hx; cases hT; exact at_is_integer tx cc
    | 1, hx, hT => cases hx; cases hT; exact at_is_run tx cc
    | 2, hx, hT => cases hx; cases hT; exact at_are_runs tx cc
    | 3, hx, hT => cases hx; cases hT; exact at_is_city tx cc
    | 4, hx, hT => cases hx; cases hT; exact at_check_city tx cc
    | 5, hx, hT => cases hx; cases hT; exact at_count_streets tx cc
    | 6, hx, hT => cases hx; cases hT; exact at_flipped tx cc
    | 7, hx, hT => cases hx; cases hT; exact at_joined tx cc
    | 8, hx, hT => cases hx; cases hT; exact at_street_run tx cc
    | 9, hx, hT => cases hx; cases hT; exact at_is_street tx cc
    | 10, hx, hT => cases hx; cases hT; exact at_check_street tx cc
    | 11, hx, hT => cases hx; cases hT; exact at_grid_size tx cc
    | 12, hx, hT => cases hx; cases hT; exact at_direction_of tx cc
    | 13, hx, hT => cases hx; cases hT; exact at_street_direction tx cc
    | 14, hx, hT => cases hx; cases hT; exact at_turned_runs tx cc
    | 15, hx, hT => cases hx; cases hT; exact at_turned_city tx cc
    | 16, hx, hT => cases hx; cases hT; exact at_reversed_city tx cc
    | 17, hx, hT => cases hx; cases hT; exact at__law_source tx cc
    | 18, hx, hT => cases hx; cases hT; exact at__law_draw tx cc
    | 19, hx, hT => cases hx; cases hT; exact at__law_runs tx cc
    | 20, hx, hT => cases hx; cases hT; exact at__law_town tx cc
    | 21, hx, hT => cases hx; cases hT; exact at__law_streets tx cc
    | 22, hx, hT => cases hx; cases hT; exact at__law_packed tx cc
    | 23, hx, hT => cases hx; cases hT; exact at__law_city_of tx cc
    | 24, hx, hT => cases hx; cases hT; exact at__law_turned tx cc
    | 25, hx, hT => cases hx; cases hT; exact at__law_sign tx cc
    | 26, hx, hT => cases hx; cases hT; exact at__law_some tx cc
    | 27, hx, hT => cases hx; cases hT; exact at__law_right tx cc
    | 28, hx, hT => cases hx; cases hT; exact at__law_small_right tx cc
    | 29, hx, hT => cases hx; cases hT; exact at__law_large_right tx cc
    | 30, hx, hT => cases hx; cases hT; exact at__law_many_right tx cc
    | 31, hx, hT => cases hx; cases hT; exact at_law tx cc
    | n + 32, hx, hT => cases hx⟩
end
theorem txt_of {w : World} {K : PySem.W.Frag} {mg : Str → Option Value} {h : Heap} (X : K.In h) (G0 : h.Ns mainGlobals mg) (c0 : SaysC fal fnl cns tbs w K) : Txt K mg w where
  nob := ⟨fun x hx => by
    exact nob_at X G0 c0.e 64 (fun i y e => by
      match i, e with
      | 0, e => cases e; rfl
      | 1, e => cases e; rfl
      | 2, e => cases e; rfl
      | 3, e => cases e; rfl
      | 4, e => cases e; rfl
      | 5, e => cases e; rfl
      | 6, e => cases e; rfl
      | 7, e => cases e; rfl
      | 8, e => cases e; rfl
      | 9, e => cases e; rfl
      | 10, e => cases e; rfl
      | 11, e => cases e; rfl
      | 12, e => cases e; rfl
      | 13, e => cases e; rfl
      | 14, e => cases e; rfl
      | 15, e => cases e; rfl
      | 16, e => cases e; rfl
      | 17, e => cases e; rfl
      | 18, e => cases e; rfl
      | 19, e => cases e; rfl
      | 20, e => cases e; rfl
      | n + 21, e => cases e) hx⟩
  gok := fun i x d hx hG => by
    match i, hx, hG with
    | 0, hx, hG => cases hx; cases hG; exact conK_ok X G0 (conS (c0.con 0 (by rfl)))
    | 1, hx, hG => cases hx; cases hG; exact conK_ok X G0 (conS (c0.con 1 (by rfl)))
    | 2, hx, hG => cases hx; cases hG; exact conK_ok X G0 (conS (c0.con 2 (by rfl)))
    | 3, hx, hG => cases hx; cases hG; exact conK_ok X G0 (conS (c0.con 3 (by rfl)))
    | 4, hx, hG => cases hx; cases hG; exact conK_ok X G0 (conS (c0.con 4 (by rfl)))
    | 5, hx, hG => cases hx; cases hG; exact conK_ok X G0 (conS (c0.con 5 (by rfl)))
    | n + 6, hx, hG => cases hx
  t_is_integer := fnTxt_of X G0 (c0.e.fact 0 (by rfl)) (c0.e.fact 1 (by rfl)) (c0.e.def_ 0 (d := d_is_integer) (by rfl))
    (fun _ _ _ _ _ _ us hl => match us, hl with | [_, _], _ => rfl)
    (fun _ _ _ _ _ _ q hq => nomatch hq)
  t_is_run := fnTxt_of X G0 (c0.e.fact 2 (by rfl)) (c0.e.fact 3 (by rfl)) (c0.e.def_ 1 (d := d_is_run) (by rfl))
    (fun _ _ _ _ _ _ us hl => match us, hl with | [_, _], _ => rfl)
    (fun _ _ _ _ _ _ q hq => nomatch hq)
  t_are_runs := fnTxt_of X G0 (c0.e.fact 4 (by rfl)) (c0.e.fact 5 (by rfl)) (c0.e.def_ 2 (d := d_are_runs) (by rfl))
    (fun _ _ _ _ _ _ us hl => match us, hl with | [_, _], _ => rfl)
    (fun _ _ _ _ _ _ q hq => nomatch hq)
  t_is_city := fnTxt_of X G0 (c0.e.fact 6 (by rfl)) (c0.e.fact 7 (by rfl)) (c0.e.def_ 3 (d := d_is_city) (by rfl))
    (fun _ _ _ _ _ _ us hl => match us, hl with | [_], _ => rfl)
    (fun _ _ _ _ _ _ q hq => nomatch hq)
  t_check_city := fnTxt_of X G0 (c0.e.fact 8 (by rfl)) (c0.e.fact 9 (by rfl)) (c0.e.def_ 4 (d := d_check_city) (by rfl))
    (fun _ _ _ _ _ _ us hl => match us, hl with | [_], _ => rfl)
    (fun _ _ _ _ _ _ q hq => nomatch hq)
  t_count_streets := fnTxt_of X G0 (c0.e.fact 10 (by rfl)) (c0.e.fact 11 (by rfl)) (c0.e.def_ 5 (d := d_count_streets) (by rfl))
    (fun _ _ _ _ _ _ us hl => match us, hl with | [_], _ => rfl)
    (fun _ _ _ _ _ _ q hq => nomatch hq)
  t_flipped := fnTxt_of X G0 (c0.e.fact 12 (by rfl)) (c0.e.fact 13 (by rfl)) (c0.e.def_ 6 (d := d_flipped) (by rfl))
    (fun _ _ _ _ _ _ us hl => match us, hl with | [_], _ => rfl)
    (fun _ _ _ _ _ _ q hq => nomatch hq)
  t_joined := fnTxt_of X G0 (c0.e.fact 14 (by rfl)) (c0.e.fact 15 (by rfl)) (c0.e.def_ 7 (d := d_joined) (by rfl))
    (fun _ _ _ _ _ _ us hl => match us, hl with | [_], _ => rfl)
    (fun _ _ _ _ _ _ q hq => nomatch hq)
  t_street_run := fnTxt_of X G0 (c0.e.fact 16 (by rfl)) (c0.e.fact 17 (by rfl)) (c0.e.def_ 8 (d := d_street_run) (by rfl))
    (fun _ _ _ _ _ _ us hl => match us, hl with | [_, _], _ => rfl)
    (fun _ _ _ _ _ _ q hq => nomatch hq)
  t_is_street := fnTxt_of X G0 (c0.e.fact 18 (by rfl)) (c0.e.fact 19 (by rfl)) (c0.e.def_ 9 (d := d_is_street) (by rfl))
    (fun _ _ _ _ _ _ us hl => match us, hl with | [_, _], _ => rfl)
    (fun _ _ _ _ _ _ q hq => nomatch hq)
  t_check_street := fnTxt_of X G0 (c0.e.fact 20 (by rfl)) (c0.e.fact 21 (by rfl)) (c0.e.def_ 10 (d := d_check_street) (by rfl))
    (fun _ _ _ _ _ _ us hl => match us, hl with | [_, _], _ => rfl)
    (fun _ _ _ _ _ _ q hq => nomatch hq)
  t_grid_size := fnTxt_of X G0 (c0.e.fact 22 (by rfl)) (c0.e.fact 23 (by rfl)) (c0.e.def_ 11 (d := d_grid_size) (by rfl))
    (fun _ _ _ _ _ _ us hl => match us, hl with | [_], _ => rfl)
    (fun _ _ _ _ _ _ q hq => nomatch hq)
  t_direction_of := fnTxt_of X G0 (c0.e.fact 24 (by rfl)) (c0.e.fact 25 (by rfl)) (c0.e.def_ 12 (d := d_direction_of) (by rfl))
    (fun _ _ _ _ _ _ us hl => match us, hl with | [_, _], _ => rfl)
    (fun _ _ _ _ _ _ q hq => nomatch hq)
  t_street_direction := fnTxt_of X G0 (c0.e.fact 26 (by rfl)) (c0.e.fact 27 (by rfl)) (c0.e.def_ 13 (d := d_street_direction) (by rfl))
    (fun _ _ _ _ _ _ us hl => match us, hl with | [_, _], _ => rfl)
    (fun _ _ _ _ _ _ q hq => nomatch hq)
  t_turned_runs := fnTxt_of X G0 (c0.e.fact 28 (by rfl)) (c0.e.fact 29 (by rfl)) (c0.e.def_ 14 (d := d_turned_runs) (by rfl))
    (fun _ _ _ _ _ _ us hl => match us, hl with | [_, _], _ => rfl)
    (fun _ _ _ _ _ _ q hq => nomatch hq)
  t_turned_city := fnTxt_of X G0 (c0.e.fact 30 (by rfl)) (c0.e.fact 31 (by rfl)) (c0.e.def_ 15 (d := d_turned_city) (by rfl))
    (fun _ _ _ _ _ _ us hl => match us, hl with | [_, _], _ => rfl)
    (fun _ _ _ _ _ _ q hq => nomatch hq)
  t_reversed_city := fnTxt_of X G0 (c0.e.fact 32 (by rfl)) (c0.e.fact 33 (by rfl)) (c0.e.def_ 16 (d := d_reversed_city) (by rfl))
    (fun _ _ _ _ _ _ us hl => match us, hl with | [_, _], _ => rfl)
    (fun _ _ _ _ _ _ q hq => by
      have hq : q ∈ [((0, ["streets", "city"], [1, 0]) : Nat × List Str × List Nat)] := hq
      simp only [List.mem_cons, List.not_mem_nil, or_false] at hq
      rcases hq with rfl
      · intro s us ws zs h1 h2 h3
        match us, ws, h1, h2, h3 with
        | [], [_, _], _, _, h3 => cases h3; exact .of_eq rfl)
  t__law_source := fnTxt_of X G0 (c0.e.fact 34 (by rfl)) (c0.e.fact 35 (by rfl)) (c0.e.def_ 17 (d := d__law_source) (by rfl))
    (fun _ _ _ _ _ _ us hl => match us, hl with | [_, _], _ => rfl)
    (fun _ _ _ _ _ _ q hq => nomatch hq)
  t__law_draw := fnTxt_of X G0 (c0.e.fact 36 (by rfl)) (c0.e.fact 37 (by rfl)) (c0.e.def_ 18 (d := d__law_draw) (by rfl))
    (fun _ _ _ _ _ _ us hl => match us, hl with | [_, _], _ => rfl)
    (fun _ _ _ _ _ _ q hq => nomatch hq)
  t__law_runs := fnTxt_of X G0 (c0.e.fact 38 (by rfl)) (c0.e.fact 39 (by rfl)) (c0.e.def_ 19 (d := d__law_runs) (by rfl))
    (fun _ _ _ _ _ _ us hl => match us, hl with | [_, _, _, _], _ => rfl)
    (fun _ _ _ _ _ _ q hq => nomatch hq)
  t__law_town := fnTxt_of X G0 (c0.e.fact 40 (by rfl)) (c0.e.fact 41 (by rfl)) (c0.e.def_ 20 (d := d__law_town) (by rfl))
    (fun _ _ _ _ _ _ us hl => match us, hl with | [_, _, _], _ => rfl)
    (fun _ _ _ _ _ _ q hq => nomatch hq)
  t__law_streets := fnTxt_of X G0 (c0.e.fact 42 (by rfl)) (c0.e.fact 43 (by rfl)) (c0.e.def_ 21 (d := d__law_streets) (by rfl))
    (fun _ _ _ _ _ _ us hl => match us, hl with | [_, _, _], _ => rfl)
    (fun _ _ _ _ _ _ q hq => nomatch hq)
  t__law_packed := fnTxt_of X G0 (c0.e.fact 44 (by rfl)) (c0.e.fact 45 (by rfl)) (c0.e.def_ 22 (d := d__law_packed) (by rfl))
    (fun _ _ _ _ _ _ us hl => match us, hl with | [_], _ => rfl)
    (fun _ _ _ _ _ _ q hq => nomatch hq)
  t__law_city_of := fnTxt_of X G0 (c0.e.fact 46 (by rfl)) (c0.e.fact 47 (by rfl)) (c0.e.def_ 23 (d := d__law_city_of) (by rfl))
    (fun _ _ _ _ _ _ us hl => match us, hl with | [_, _], _ => rfl)
    (fun _ _ _ _ _ _ q hq => nomatch hq)
  t__law_turned := fnTxt_of X G0 (c0.e.fact 48 (by rfl)) (c0.e.fact 49 (by rfl)) (c0.e.def_ 24 (d := d__law_turned) (by rfl))
    (fun _ _ _ _ _ _ us hl => match us, hl with | [_, _], _ => rfl)
    (fun _ _ _ _ _ _ q hq => nomatch hq)
  t__law_sign := fnTxt_of X G0 (c0.e.fact 50 (by rfl)) (c0.e.fact 51 (by rfl)) (c0.e.def_ 25 (d := d__law_sign) (by rfl))
    (fun _ _ _ _ _ _ us hl => match us, hl with | [_, _], _ => rfl)
    (fun _ _ _ _ _ _ q hq => nomatch hq)
  t__law_some := fnTxt_of X G0 (c0.e.fact 52 (by rfl)) (c0.e.fact 53 (by rfl)) (c0.e.def_ 26 (d := d__law_some) (by rfl))
    (fun _ _ _ _ _ _ us hl => match us, hl with | [_, _, _, _], _ => rfl)
    (fun _ _ _ _ _ _ q hq => nomatch hq)
  t__law_right := fnTxt_of X G0 (c0.e.fact 54 (by rfl)) (c0.e.fact 55 (by rfl)) (c0.e.def_ 27 (d := d__law_right) (by rfl))
    (fun _ _ _ _ _ _ us hl => match us, hl with | [_, _], _ => rfl)
    (fun _ _ _ _ _ _ q hq => nomatch hq)
  t__law_small_right := fnTxt_of X G0 (c0.e.fact 56 (by rfl)) (c0.e.fact 57 (by rfl)) (c0.e.def_ 28 (d := d__law_small_right) (by rfl))
    (fun _ _ _ _ _ _ us hl => match us, hl with | [_], _ => rfl)
    (fun _ _ _ _ _ _ q hq => nomatch hq)
  t__law_large_right := fnTxt_of X G0 (c0.e.fact 58 (by rfl)) (c0.e.fact 59 (by rfl)) (c0.e.def_ 29 (d := d__law_large_right) (by rfl))
    (fun _ _ _ _ _ _ us hl => match us, hl with | [_], _ => rfl)
    (fun _ _ _ _ _ _ q hq => nomatch hq)
  t__law_many_right := fnTxt_of X G0 (c0.e.fact 60 (by rfl)) (c0.e.fact 61 (by rfl)) (c0.e.def_ 30 (d := d__law_many_right) (by rfl))
    (fun _ _ _ _ _ _ us hl => match us, hl with | [_], _ => rfl)
    (fun _ _ _ _ _ _ q hq => nomatch hq)
  t_law := fnTxt_of X G0 (c0.e.fact 62 (by rfl)) (c0.e.fact 63 (by rfl)) (c0.e.def_ 31 (d := d_law) (by rfl))
    (fun _ _ _ _ _ _ us hl => match us, hl with | [_], _ => rfl)
    (fun _ _ _ _ _ _ q hq => nomatch hq)
  g_OPPOSITE := gdTxt_of X G0 (c0.e.fact 85 (by rfl)) (c0.tab 0 (by rfl)) (c0.tabv 0 (by rfl))
  x_CityError := exTxt_of X G0 (c0.e.fact 86 (by rfl)) (c0.e.fact 87 (by rfl))
  x_InvalidCity := exTxt_of X G0 (c0.e.fact 88 (by rfl)) (c0.e.fact 89 (by rfl))
  x_InvalidStreet := exTxt_of X G0 (c0.e.fact 90 (by rfl)) (c0.e.fact 91 (by rfl))
  x_InvalidStreets := exTxt_of X G0 (c0.e.fact 92 (by rfl)) (c0.e.fact 93 (by rfl))
end CC
open PySem PySem.W PySem.Calls PyProof.Rows
theorem PySem.Challenge.cw_cornercity_k04_reversed_streets_holds : PySem.Challenge.rw_cornercity_k04_reversed_streets.Holds := by
  refine CC.head_done ?_
  refine CC.walk_e (l := PySem.Challenge.rw_cornercity_k04_reversed_streets) (n := 63) (k := 8) (x := "law") (kw := CC.kwt CC.f_law) (cs := CC.CF 8 CC.f_law) rfl (by decide) CC.head_defs CC.head_name ⟨rfl, by decide, by decide⟩ ?F CC.law_thm
  intro w mg h Y G
  obtain ⟨K, KX, c⟩ := Y
  exact ⟨K, KX, fun base Xb Gb => (CC.calls_ok (CC.txt_of KX G c) 8).fn CC.f_law "law" CC.fd_law rfl rfl⟩
