import PyProof.Rows.All
import Wide.All
import OpenK.AllK
import Wide.FinOn
import KE.KStateDown
import PySem.Challenge.RW_cornercity_k41_texts_both_ways
import HandS.Text
import HandS.ForMost
import HandS.ForExc
import HandS.IsInst
import HandS.Style
import HandS.TupAny
import HandS.Wide
import HandS.Deep
import KE.KeyNested
import HandS.ExcValue
import HandS.ExcCtx
import HandS.SetBool
import HandS.Dict
import HandS.TupLen
import HandS.Zip
import HandS.Flow
import HandS.More
import PyProof.SliceStr2
import KE.GoesMore
import HandS.NoneIn
import HandS.FStrTup
import HandS.Head0
import HandS.Head1
import HandS.Head2
import HandS.HeadHook1
import HandS.HeadHook3
import HandS.TryOnly
import HandS.ExcIs
import KE.KExcIs
import HandS.ExcInit
import HandS.ExcField
import HandS.HotCalls
import HandS.Hot
import HandS.SetKeys
import HandS.MapSum
import PyProof.DictWalks
import PyProof.SumAny
import HandS.RaiseMore
import KE.KDictDisplayH
import KE.KDictKeyed
import HandS.TupSets
import KE.KDictList
import HandS.SortInts
import HandS.DictComp
import HandS.Sort
import PyProof.LongRange
import KE.SortData
import HandS.Conv
import HandS.MakeKw
import PyProof.FactsLen
import KE.DataCmp
import KE.KDictPairs
import HandS.Set
import KE.KIntText
import HandS.Replace
import PyProof.Rows.StrOr
import PyProof.Rows.StrMul
import KE.KxIndex
import PyProof.StrLawsRepr
import PyProof.Rows.StrJoinRep
set_option Elab.async false
set_option linter.all false
set_option maxRecDepth 100000
set_option maxHeartbeats 4000000
namespace CC
open PySem PySem.Spec PyProof.Rows L2
inductive D where
  | non | bl (b : Bool) | int (i : Int) | str (x : Str) | tup (ds : List D) | loc (n : Nat) | ty (t : String) | fn (x : Str)
  | fl (ds : List D) | fd (ks : List Key) (ds : List D) | exn (c : Nat) (ps : List D) | cls (c : Nat)
  | fm (ks : List NestedKey) (ds : List D) | bd (ds : List D)
  deriving Inhabited
def D.lt (k : Nat) : D → Bool
  | .loc n => decide (n < k)
  | .tup ds => ds.attach.all fun ⟨d, _⟩ => d.lt k
  | .fl ds => ds.attach.all fun ⟨d, _⟩ => d.lt k
  | .fd _ ds => ds.attach.all fun ⟨d, _⟩ => d.lt k
  | .exn _ ds => ds.attach.all fun ⟨d, _⟩ => d.lt k
  | .fm _ ds => ds.attach.all fun ⟨d, _⟩ => d.lt k
  | .bd ds => ds.attach.all fun ⟨d, _⟩ => d.lt k
  | _ => true
abbrev ltL (k : Nat) (ds : List D) : Bool := ds.all fun d => d.lt k
@[simp] theorem lt_loc {k n : Nat} : (D.loc n).lt k = decide (n < k) := by unfold D.lt; rfl
@[simp] theorem lt_tup {k : Nat} {ds : List D} : (D.tup ds).lt k = ltL k ds := by rw [D.lt]; simp
@[simp] theorem lt_fl {k : Nat} {ds : List D} : (D.fl ds).lt k = ltL k ds := by rw [D.lt]; simp
@[simp] theorem lt_fd {k : Nat} {ks : List Key} {ds : List D} : (D.fd ks ds).lt k = ltL k ds := by rw [D.lt]; simp
@[simp] theorem lt_exn {k c : Nat} {ds : List D} : (D.exn c ds).lt k = ltL k ds := by rw [D.lt]; simp
@[simp] theorem lt_fm {k : Nat} {ks : List NestedKey} {ds : List D} : (D.fm ks ds).lt k = ltL k ds := by rw [D.lt]; simp
@[simp] theorem lt_bd {k : Nat} {ds : List D} : (D.bd ds).lt k = ltL k ds := by rw [D.lt]; simp
@[simp] theorem lt_cls {k c : Nat} : (D.cls c).lt k = true := by unfold D.lt; rfl
@[simp] theorem lt_non {k : Nat} : D.non.lt k = true := by unfold D.lt; rfl
@[simp] theorem lt_bl {k : Nat} {b : Bool} : (D.bl b).lt k = true := by unfold D.lt; rfl
@[simp] theorem lt_int {k : Nat} {b : Int} : (D.int b).lt k = true := by unfold D.lt; rfl
@[simp] theorem lt_str {k : Nat} {b : Str} : (D.str b).lt k = true := by unfold D.lt; rfl
@[simp] theorem lt_ty {k : Nat} {b : String} : (D.ty b).lt k = true := by unfold D.lt; rfl
@[simp] theorem lt_fn {k : Nat} {b : Str} : (D.fn b).lt k = true := by unfold D.lt; rfl
inductive SO where
  | lst (ds : List D) | frz (ds : List D) | dic (kvs : List (Key × D)) | fdic (kvs : List (Key × D)) | dn (kvs : List (NestedKey × D)) | fdn (kvs : List (NestedKey × D))
  | ins (c : Nat) (fs : List (Str × D))
abbrev Sto := List SO
def SO.lt (k : Nat) : SO → Bool
  | .lst ds => ltL k ds
  | .frz ds => ltL k ds
  | .dic kvs => ltL k (kvs.map (·.2))
  | .fdic kvs => ltL k (kvs.map (·.2))
  | .dn kvs => ltL k (kvs.map (·.2))
  | .fdn kvs => ltL k (kvs.map (·.2))
  | .ins _ fs => ltL k (fs.map (·.2))
def keepS (S S' : Sto) : Prop := ∀ (i : Nat) (so : SO), i < S.length → S'[i]? = some so → S[i]? = some so ∨ so.lt S.length = true
open Classical in
noncomputable def cutS (S : Sto) (b : Bool) (S' : Sto) : Sto := if b = true ∧ keepS S S' then S'.take S.length else S'
abbrev Env := List (Option D)
inductive R (α : Type) where
  | ok (a : α) (S : Sto) | exc (c : Nat) (p : List D) (S : Sto) | bad
def R.bind {α β : Type} (r : R α) (f : α → Sto → R β) : R β :=
  match r with
  | .ok a S => f a S
  | .exc c p S => .exc c p S
  | .bad => .bad
noncomputable def trim (S : Sto) : R D → R D
  | .ok d S' => .ok d (cutS S (d.lt S.length) S')
  | .exc c p S' => .exc c p (cutS S (ltL S.length p) S')
  | .bad => .bad
def R.opt {α : Type} (o : Option α) (S : Sto) : R α := match o with
  | some a => .ok a S
  | none => .bad
@[simp] theorem R.bind_ok {α β : Type} (a : α) (S : Sto) (f : α → Sto → R β) : (R.ok a S).bind f = f a S := rfl
@[simp] theorem R.bind_exc {α β : Type} (c : Nat) (p : List D) (S : Sto) (f : α → Sto → R β) : (R.exc c p S : R α).bind f = .exc c p S := rfl
@[simp] theorem R.bind_bad {α β : Type} (f : α → Sto → R β) : (R.bad : R α).bind f = .bad := rfl
@[simp] theorem R.opt_some {α : Type} (a : α) (S : Sto) : R.opt (some a) S = .ok a S := rfl
abbrev CallSem := Nat → List D → Sto → R D
inductive Src where
  | lst (n : Nat) | ds (l : List D) | zip (n k : Nat) | enum (n : Nat) | zipF (n : Nat) (l : List D)
inductive Bi where
  | len | abs | sum | min | max | all | any | sorted | repr | int | str | list | tuple | set | isinst | isx | listn | sortd
  deriving DecidableEq
inductive Mt where
  | append | pop | popAt | insert | reverse | extend
  deriving DecidableEq
inductive Xp where
  | var (i : Nat) | glo (x : Nat) | non | bl (b : Bool) | int (i : Int) | str (x : Str) | tyc (t : String)
  | bin (op : Operator) (a b : Xp) | neg (a : Xp) | nt (a : Xp) | and (a b : Xp) | or (a b : Xp)
  | cmp (op : CmpOp) (a b : Xp) | cmp2 (op op' : CmpOp) (a b c : Xp) | ife (c a b : Xp)
  | call (f : Nat) (es : Xp) | callk (f : Nat) (es ks : Xp) (perm : List Nat) | bi (b : Bi) (es : Xp) | mt (m : Mt) (o es : Xp)
  | ix (a b : Xp) | sl (a lo hi : Xp) | rev (a : Xp) | tup (es : Xp) | lst (es : Xp)
  | lc (it tg elt cond : Xp) (vs : List Nat) | lc2 (it tg cond it1 tg1 cond1 elt : Xp) (vs vs1 : List Nat)
  | frzv (a : Xp) | gdx (t : List (Str × D)) (e : Xp) | dnew | dget (o k v : Xp) | dsetd (o k v : Xp) | sumv (o : Xp) | lset (o : Xp) | lix (o e : Xp)
  | callv (t : List (Str × Nat)) (f es : Xp) | callvk (t : List (Str × Nat)) (f es ks : Xp) (perm : List Nat)
  | dgetn (o k v : Xp) | dksn (o : Xp) | dd (es : Xp) | dnn | ddn (es : Xp) | xfld (f : Str) (a : Xp) | mkx (c : Nat) (es : Xp)
  | itr (a : Xp) | dit (o : Xp) | dks (o : Xp) | dvs (o : Xp) | rng1 (a : Xp) | rng2 (a b : Xp) | zip2 (a b : Xp) | enum (a : Xp)
  | prm (f : List D → Sto → R D) (es : Xp) | itp (f : List D → Sto → R Src) (es : Xp)
  | fld (f : Str) (o : Xp) | meth (m : Str) (c i : Nat) (o es : Xp) | mko (c i : Nat) (es : Xp) | lcd (it tg k v cond : Xp) (vs : List Nat)
  | nil | cons (a b : Xp)
def truth (x : D) (S : Sto) : Option Bool := match x with
  | .non => some false
  | .bl b => some b
  | .int i => some (i != 0)
  | .tup ds => some (!ds.isEmpty)
  | .fl ds => some (!ds.isEmpty)
  | .loc n => match S[n]? with
    | some (.lst ds) => some (!ds.isEmpty)
    | some (.frz ds) => some (!ds.isEmpty)
    | _ => none
  | _ => none
def lstAt (S : Sto) (n : Nat) : Option (List D) := match S[n]? with
  | some (.lst ds) => some ds
  | some (.frz ds) => some ds
  | _ => none
def lstD (S : Sto) : D → Option (List D)
  | .loc n => lstAt S n
  | .fl ds => some ds
  | _ => none
def sqD (S : Sto) : D → Option (List D)
  | .tup ds => some ds
  | x => lstD S x
def lstM (S : Sto) : D → Option (List D)
  | .loc n => match S[n]? with
    | some (.lst ds) => some ds
    | _ => none
  | .fl ds => some ds
  | _ => none
def lstW (S : Sto) : D → Option (List D)
  | .loc n => match S[n]? with
    | some (.lst ds) => some ds
    | _ => none
  | _ => none
def frzD (x : D) (S : Sto) : R D := match x with
  | .loc n => match S[n]? with
    | some (.lst ds) => .ok (.fl ds) (S.set n (.frz ds))
    | some (.dic kvs) => .ok (.fd (kvs.map (·.1)) (kvs.map (·.2))) (S.set n (.fdic kvs))
    | some (.dn kvs) => .ok (.fm (kvs.map (·.1)) (kvs.map (·.2))) (S.set n (.fdn kvs))
    | _ => .ok x S
  | _ => .ok x S
def dicAt (S : Sto) (n : Nat) : Option (List (Key × D)) := match S[n]? with
  | some (.dic kvs) => some kvs
  | some (.fdic kvs) => some kvs
  | _ => none
def dnAt (S : Sto) (n : Nat) : Option (List (NestedKey × D)) := match S[n]? with
  | some (.dn kvs) => some kvs
  | some (.fdn kvs) => some kvs
  | _ => none
mutual
def kN : D → Option NestedKey
  | .non => some .none
  | .int i => some (.num i)
  | .str x => some (.text x)
  | .tup ds => (kNs ds).map .tup
  | _ => none
def kNs : List D → Option (List NestedKey)
  | [] => some []
  | d :: r => (kN d).bind fun k => (kNs r).map (k :: ·)
end
def kT (d : D) : Option NestedKey := match d with
  | .tup ds => (kNs ds).bind fun ks => if decide ((NestedKey.tup ks).depth ≤ 8) then some (.tup ks) else none
  | _ => none
def kTs : List D → Option (List NestedKey)
  | [] => some []
  | d :: r => (kT d).bind fun k => (kTs r).map (k :: ·)
def kB (d : D) : Option NestedKey := match d with
  | .tup [.int x, .bl b] => some (.tup [.num x, .num (if b then 1 else 0)])
  | _ => none
def kBs : List D → Option (List NestedKey)
  | [] => some []
  | d :: r => (kB d).bind fun k => (kBs r).map (k :: ·)
def flatB : NestedKey → Bool
  | .tup ks => ks.all fun k => match k with
    | .num _ => true
    | .text _ => true
    | _ => false
  | _ => false
def uds : List NestedKey → List NestedKey
  | [] => []
  | k :: r => if k ∈ r then uds r else k :: uds r
def lsetL (ds : List D) : Option Nat := (kTs ds).bind fun ks => if ks.all flatB && decide (ks.length < 64) then some (uds ks).length else none
mutual
def nD : NestedKey → D
  | .none => .non
  | .num i => .int i
  | .text x => .str x
  | .tup ks => .tup (nDs ks)
def nDs : List NestedKey → List D
  | [] => []
  | k :: ks => nD k :: nDs ks
end
def kD : D → Option Key
  | .int i => some (.inl i)
  | .str x => some (.inr x)
  | _ => none
def valA {κ : Type} [DecidableEq κ] (kvs : List (κ × D)) (k : κ) : Option D := (kvs.find? fun kv => decide (kv.1 = k)).map (·.2)
def putA {κ : Type} [DecidableEq κ] (kvs : List (κ × D)) (k : κ) (d : D) : List (κ × D) := if (kvs.any fun kv => decide (kv.1 = k)) = true then kvs.map (fun kv => if kv.1 = k then (kv.1, d) else kv) else kvs ++ [(k, d)]
def isLst (x : D) (S : Sto) : Bool := match x with
  | .loc n => (lstAt S n).isSome
  | _ => false
def lenL (o : Option (List D)) (p : Option (List (Key × D))) (q : Option (List (NestedKey × D))) : Option Nat := match o with
  | some ds => some ds.length
  | none => match p with
    | some kvs => some kvs.length
    | none => q.map List.length
def ixL (o : Option (List D)) (p : Option (List (Key × D))) (q : Option (List (NestedKey × D))) (y : D) : Option D := match o with
  | some ds => match y with
    | .int i => atI ds i
    | _ => none
  | none => match p with
    | some kvs => (kD y).bind fun k => valA kvs k
    | none => q.bind fun kvs => (kT y).bind fun k => valA kvs k
def lenD (x : D) (S : Sto) : Option Nat := match x with
  | .fl ds => some ds.length
  | .fd ks ds => some (ks.zip ds).length
  | .str z => if z.length ≤ sizeLine then some z.length else none
  | .tup ds => some ds.length
  | .loc n => lenL (lstAt S n) (dicAt S n) (dnAt S n)
  | .fm ks ds => some (ks.zip ds).length
  | _ => none
def toP (S : Sto) : Nat → D → Option PyData
  | _, .non => some .none
  | _, .bl b => some (.bool b)
  | _, .int i => some (.int i)
  | _, .str x => some (.str x)
  | n + 1, .tup ds => (ds.mapM (toP S n)).map .tuple
  | n + 1, .loc k => (lstAt S k).bind fun ds => (ds.mapM (toP S n)).map .list
  | n + 1, .fl ds => (ds.mapM (toP S n)).map .list
  | _, _ => none
def eqD (x y : D) (S : Sto) : Option Bool :=
  (toP S 50 x).bind fun p => (toP S 50 y).bind fun q => if SeqAt.shaped p && SeqAt.shaped q then some (PyData.eqv p q) else none
mutual
def shB : PyData → Nat
  | .none => 4
  | .bool _ => 5
  | .int i => i.natAbs.log2 + 3
  | .str x => (reprText x).length
  | .list xs => shBs xs + 3
  | .tuple xs => shBs xs + 3
  | .dict _ => 2
def shBs : List PyData → Nat
  | [] => 0
  | x :: xs => shB x + 2 + shBs xs
end
def toQ (S : Sto) : Nat → D → Option PyData
  | _, .non => some .none
  | _, .bl b => some (.bool b)
  | _, .int i => some (.int i)
  | _, .str x => some (.str x)
  | _, .fd [] [] => some (.dict [])
  | n + 1, .tup ds => (ds.mapM (toQ S n)).map .tuple
  | n + 1, .fl ds => (ds.mapM (toQ S n)).map .list
  | n + 1, .loc k => match lstAt S k with
    | some ds => (ds.mapM (toQ S n)).map .list
    | none => match dicAt S k with
      | some [] => some (.dict [])
      | _ => none
  | _, _ => none
mutual
def dic0 : PyData → Bool
  | .none => true
  | .bool _ => true
  | .int _ => true
  | .str _ => true
  | .list xs => dic0s xs
  | .tuple xs => dic0s xs
  | .dict kvs => kvs.isEmpty
def dic0s : List PyData → Bool
  | [] => true
  | x :: xs => dic0 x && dic0s xs
end
def repOk (p : PyData) : Bool := p.showable && dic0 p && decide (p.depth ≤ 64) && decide (shB p ≤ sizeLine)
def repP (o : Option PyData) : Option D := o.bind fun p => if repOk p then some (.str p.shown) else none
def repD (x : D) (S : Sto) : Option D := repP (toQ S 50 x)
def flatD : D → Bool
  | .non => true
  | .bl _ => true
  | .int _ => true
  | .str _ => true
  | _ => false
def feq : D → D → Bool
  | .non, .non => true
  | .bl a, .bl b => a == b
  | .bl a, .int b => (if a then 1 else 0) == b
  | .int a, .bl b => a == (if b then 1 else 0)
  | .int a, .int b => a == b
  | .str a, .str b => a == b
  | _, _ => false
def inSeq (x : D) (ds : List D) : Option Bool := if flatD x && ds.all flatD then some (ds.any fun y => feq y x) else none
def inDeep (x y : D) (S : Sto) : Option Bool :=
  (toP S 50 x).bind fun p => (toP S 50 y).bind fun q => match q with
    | .list ds => if SeqAt.shaped p && SeqAt.shaped (.list ds) then some (ds.any fun z => PyData.eqv z p) else none
    | _ => none
def inD (x y : D) (S : Sto) : Option Bool := match y with
  | .tup ds => inSeq x ds
  | .loc n => match dicAt S n with
    | some kvs => (kD x).map fun k => (valA kvs k).isSome
    | none => match dnAt S n with
      | some kvs => (kT x).map fun k => (valA kvs k).isSome
      | none => inDeep x (.loc n) S
  | .fl ds => inDeep x (.fl ds) S
  | .fd ks ds => (kD x).map fun k => (valA (ks.zip ds) k).isSome
  | .fm ks ds => (kT x).map fun k => (valA (ks.zip ds) k).isSome
  | .str z => match x with
    | .str c => some (!(Builtin.Str.occurrences z c 0 z.length 1).isEmpty)
    | _ => none
  | _ => none
def isNon : D → Bool
  | .non => true
  | _ => false
def lenNe (x y : D) (S : Sto) : Option Bool := (lstD S x).bind fun ds => (lstD S y).bind fun es => if ds.length = es.length then none else some false
def qEq (x y : D) (S : Sto) : Option Bool := match x, y with
  | .int i, .int j => some (i == j)
  | .str a, .str b => some (a == b)
  | x, y => match eqD x y S with
    | some b => some b
    | none => lenNe x y S
def cmpD (op : CmpOp) (x y : D) (S : Sto) : Option Bool := match op with
  | .Eq => qEq x y S
  | .NotEq => (qEq x y S).map (!·)
  | .Lt => match x, y with
    | .int i, .int j => some (decide (i < j))
    | _, _ => none
  | .LtE => match x, y with
    | .int i, .int j => some (decide (i ≤ j))
    | _, _ => none
  | .Gt => match x, y with
    | .int i, .int j => some (decide (j < i))
    | _, _ => none
  | .GtE => match x, y with
    | .int i, .int j => some (decide (j ≤ i))
    | _, _ => none
  | .In => inD x y S
  | .NotIn => (inD x y S).map (!·)
  | .Is => match y with
    | .non => some (isNon x)
    | _ => none
  | .IsNot => match y with
    | .non => some (!isNon x)
    | _ => none
def mulOk (i j : Int) : Bool := decide (i.natAbs.log2 + j.natAbs.log2 < 1000000)
def powOk (i j : Int) : Bool := decide (0 ≤ j) && decide (j ≤ 1000) && decide (i.natAbs.log2 < 1000)
def divOk (j : Int) : Bool := decide (0 < j) && decide (j.natAbs.log2 < 9000)
def mk (so : SO) (S : Sto) : R D := .ok (.loc S.length) (S ++ [so])
def catD (o p : Option (List D)) (S : Sto) : R D := match o, p with
  | some a, some b => if a.length + b.length ≤ sizeLine then mk (.lst (a ++ b)) S else .bad
  | _, _ => .bad
def repL (o : Option (List D)) (k : Int) (S : Sto) : R D := match o with
  | some a => if decide (-(2 ^ 63) ≤ k) && decide (k < 2 ^ 63) && decide (a.length * k.toNat ≤ sizeLine) then mk (.lst (List.replicate k.toNat a).flatten) S else .bad
  | _ => .bad
def binD (op : Operator) (x y : D) (S : Sto) : R D := match op with
  | .Add => match x, y with
    | .int i, .int j => .ok (.int (i + j)) S
    | .str a, .str b => if a.length + b.length ≤ sizeLine then .ok (.str (a ++ b)) S else .bad
    | .tup a, .tup b => if a.length + b.length ≤ sizeLine then .ok (.tup (a ++ b)) S else .bad
    | x, y => catD (lstM S x) (lstM S y) S
  | .Sub => match x, y with
    | .int i, .int j => .ok (.int (i - j)) S
    | _, _ => .bad
  | .Mult => match x, y with
    | .int i, .int j => if mulOk i j then .ok (.int (i * j)) S else .bad
    | x, .int k => repL (lstW S x) k S
    | _, _ => .bad
  | .FloorDiv => match x, y with
    | .int i, .int j => if divOk j then .ok (.int (i / j)) S else .bad
    | _, _ => .bad
  | .Mod => match x, y with
    | .int i, .int j => if decide (0 < j) then .ok (.int (i % j)) S else .bad
    | _, _ => .bad
  | .Pow => match x, y with
    | .int i, .int j => if powOk i j then .ok (.int (i ^ j.toNat)) S else .bad
    | _, _ => .bad
  | _ => .bad
def augD (op : Operator) (x y : D) (S : Sto) : R D := match op with
  | .Add => match x, y with
    | .int i, .int j => .ok (.int (i + j)) S
    | .str a, .str b => if a.length + b.length ≤ sizeLine then .ok (.str (a ++ b)) S else .bad
    | .loc n, y => match S[n]?, lstM S y with
      | some (.lst a), some b => if a.length + b.length ≤ sizeLine then .ok (.loc n) (S.set n (.lst (a ++ b))) else .bad
      | _, _ => .bad
    | _, _ => .bad
  | .Sub => match x, y with
    | .int i, .int j => .ok (.int (i - j)) S
    | _, _ => .bad
  | .Mult => match x, y with
    | .int i, .int j => if decide (-(2 ^ 64) < j) && decide (j < 2 ^ 64) then .ok (.int (i * j)) S else .bad
    | _, _ => .bad
  | _ => .bad
def ixD (x y : D) (S : Sto) : Option D := match x, y with
  | .tup ds, .int i => atI ds i
  | .loc n, y => ixL (lstAt S n) (dicAt S n) (dnAt S n) y
  | .fl ds, .int i => atI ds i
  | .fd ks ds, y => (kD y).bind fun k => valA (ks.zip ds) k
  | .fm ks ds, y => (kT y).bind fun k => valA (ks.zip ds) k
  | .str z, .int i => if z.length ≤ sizeLine then (atI z.cps.toList i).map fun c => .str ⟨#[c]⟩ else none
  | _, _ => none
def cut {α : Type} (xs : List α) (lo hi : Option Int) : List α := (xs.drop (HT.sIx xs.length 0 lo)).take (HT.sIx xs.length xs.length hi - HT.sIx xs.length 0 lo)
def slD (x : D) (lo hi : Option Int) (S : Sto) : R D := match x with
  | .fl ds => mk (.lst (cut ds lo hi)) S
  | .tup ds => .ok (.tup (cut ds lo hi)) S
  | .loc n => match lstAt S n with
    | some ds => mk (.lst (cut ds lo hi)) S
    | none => .bad
  | .str z => if z.length ≤ sizeLine then .ok (.str (L2.cutS z lo hi)) S else .bad
  | _ => .bad
def revD (x : D) (S : Sto) : R D := match x with
  | .fl ds => mk (.lst ds.reverse) S
  | .loc n => match lstAt S n with
    | some ds => mk (.lst ds.reverse) S
    | none => .bad
  | .tup ds => .ok (.tup ds.reverse) S
  | .str z => if z.length ≤ sizeLine then .ok (.str ⟨z.cps.toList.reverse.toArray⟩) S else .bad
  | _ => .bad
def intsOf : List D → Option (List Int)
  | [] => some []
  | .int i :: r => (intsOf r).map (i :: ·)
  | _ :: _ => none
def blsOf : List D → Option (List Bool)
  | [] => some []
  | .bl b :: r => (blsOf r).map (b :: ·)
  | _ :: _ => none
def tyOfD (x : D) (S : Sto) : Option String := match x with
  | .non => some "NoneType"
  | .bl _ => some "bool"
  | .int _ => some "int"
  | .str _ => some "str"
  | .tup _ => some "tuple"
  | .fl _ => some "list"
  | .fd _ _ => some "dict"
  | .loc n => match S[n]? with
    | some (.lst _) => some "list"
    | some (.dic _) => some "dict"
    | _ => none
  | _ => none
def subTy (a b : String) : Bool := a == b || (a == "bool" && b == "int")
def knownTy (b : String) : Bool := b == "int" || b == "bool" || b == "str" || b == "tuple" || b == "list" || b == "dict"
def isT (a : String) (t : D) : Option Bool := match t with
  | .ty b => if knownTy b then some (subTy a b) else none
  | .tup [.ty b, .ty c] => if knownTy b && knownTy c then some (subTy a b || subTy a c) else none
  | _ => none
def isinst (x t : D) (S : Sto) : Option Bool := (tyOfD x S).bind fun a => isT a t
def leastI : Int → List Int → Int
  | m, [] => m
  | m, x :: r => leastI (if x < m then x else m) r
def mostI : Int → List Int → Int
  | m, [] => m
  | m, x :: r => mostI (if m < x then x else m) r
def subX (c k : Nat) : Bool := c == k || k == 0
def isX1 (c : Nat) : D → Option Bool
  | .cls k => some (subX c k)
  | .ty t => if t = "ValueError" then some true else none
  | _ => none
def isXL (c : Nat) : List D → Option Bool
  | [] => some false
  | t :: r => (isX1 c t).bind fun b => (isXL c r).map fun e => b || e
def isX (c : Nat) : D → Option Bool
  | .tup ts => isXL c ts
  | t => isX1 c t
def dnD (S : Sto) : D → Option (List (NestedKey × D))
  | .loc n => dnAt S n
  | .fm ks ds => some (ks.zip ds)
  | _ => none
def insI (x : Int) : List Int → List Int
  | [] => [x]
  | y :: l => if x ≤ y then x :: y :: l else y :: insI x l
def isort : List Int → List Int
  | [] => []
  | x :: l => insI x (isort l)
def dicD (S : Sto) : D → Option (List (Key × D))
  | .loc n => dicAt S n
  | .fd ks ds => some (ks.zip ds)
  | _ => none
def keysI : List (Key × D) → Option (List Int)
  | [] => some []
  | (.inl i, _) :: r => (keysI r).map (i :: ·)
  | _ :: _ => none
def idxI (y : Int) : List Int → Option Nat
  | [] => none
  | x :: r => if x = y then some 0 else (idxI y r).map (· + 1)
def lixD (x y : D) (S : Sto) : Option D := match y with
  | .int i => ((lstD S x).bind intsOf).bind fun ns => (idxI i ns).map fun (j : Nat) => .int (j : Nat)
  | _ => none
def biD (b : Bi) (xs : List D) (S : Sto) : R D := match b, xs with
  | .len, [x] => R.opt ((lenD x S).map fun n => .int n) S
  | .abs, [.int i] => .ok (.int (if i < 0 then -i else i)) S
  | .max, [.int i, .int j] => .ok (.int (if j > i then j else i)) S
  | .min, [.int i, .int j] => .ok (.int (if j < i then j else i)) S
  | .max, [x] => match (sqD S x).bind intsOf with
    | some (x :: r) => .ok (.int (mostI x r)) S
    | _ => .bad
  | .min, [x] => match (sqD S x).bind intsOf with
    | some (x :: r) => .ok (.int (leastI x r)) S
    | _ => .bad
  | .sum, [x] => R.opt (((lstD S x).bind intsOf).map fun ns => .int ns.sum) S
  | .all, [x] => R.opt (((lstD S x).bind blsOf).map fun bs => .bl (bs.all id)) S
  | .any, [x] => R.opt (((lstD S x).bind blsOf).map fun bs => .bl (bs.any id)) S
  | .int, [.int i] => .ok (.int i) S
  | .str, [.int i] => if decide (i.natAbs.log2 < 1900) then .ok (.str (toString i)) S else .bad
  | .str, [.str x] => .ok (.str x) S
  | .int, [.bl k] => .ok (.int (if k then 1 else 0)) S
  | .sorted, [x] => match (lstD S x).bind intsOf with
    | some ns => mk (.lst ((isort ns).map D.int)) S
    | none => .bad
  | .sortd, [x] => match (dicD S x).bind keysI with
    | some ns => mk (.lst ((isort ns).map D.int)) S
    | none => .bad
  | .listn, [x] => match dnD S x with
    | some kvs => mk (.lst (kvs.map fun kv => nD kv.1)) S
    | none => .bad
  | .list, [.tup ds] => mk (.lst ds) S
  | .list, [x] => match lstD S x with
    | some ds => mk (.lst ds) S
    | none => .bad
  | .tuple, [.tup ds] => .ok (.tup ds) S
  | .tuple, [x] => match lstD S x with
    | some ds => .ok (.tup ds) S
    | none => .bad
  | .repr, [x] => R.opt (repD x S) S
  | .isinst, [x, t] => R.opt ((isinst x t S).map .bl) S
  | .isx, [.exn c _, t] => R.opt ((isX c t).map .bl) S
  | .isx, [x, t] => R.opt ((isinst x t S).map .bl) S
  | _, _ => .bad
def mtL (m : Mt) (ds xs : List D) (S : Sto) : Option (D × List D) := match m, xs with
  | .append, [d] => if ds.length < sizeLine then some (.non, ds ++ [d]) else none
  | .pop, [] => (ds[ds.length - 1]?).map fun y => (y, ds.dropLast)
  | .popAt, [.int i] => if decide (-(2 ^ 63) ≤ i) && decide (i < 2 ^ 63) then (seqIndex? i ds.length).bind fun k => (ds[k]?).map fun y => (y, ds.eraseIdx k) else none
  | .insert, [.int i, y] => if decide (ds.length < sizeLine) && (decide (0 ≤ i) && decide (i < 2 ^ 63)) then some (.non, ds.take i.toNat ++ [y] ++ ds.drop i.toNat) else none
  | .reverse, [] => some (.non, ds.reverse)
  | .extend, [y] => match lstM S y with
    | some zs => if ds.length + zs.length ≤ sizeLine then some (.non, ds ++ zs) else none
    | _ => none
  | _, _ => none
def mtW (n : Nat) (S : Sto) : Option (D × List D) → R D
  | some (r, ys) => .ok r (S.set n (.lst ys))
  | none => .bad
def mtD (m : Mt) (x : D) (xs : List D) (S : Sto) : R D := match x with
  | .loc n => match S[n]? with
    | some (.lst ds) => mtW n S (mtL m ds xs S)
    | _ => .bad
  | _ => .bad
def setIx (x y d : D) (S : Sto) : Option Sto := match x with
  | .loc n => match S[n]? with
    | some (.lst ds) => match y with
      | .int i => (ixN ds.length i).map fun j => S.set n (.lst (ds.set j d))
      | _ => none
    | some (.dic kvs) => (kD y).bind fun k => if kvs.length < sizeLine then some (S.set n (.dic (putA kvs k d))) else none
    | some (.dn kvs) => (kT y).bind fun k => if kvs.length < sizeLine then some (S.set n (.dn (putA kvs k d))) else none
    | _ => none
  | _ => none
def putSl (ds es : List D) (lo hi : Option Int) : List D := ds.take (HT.sIx ds.length 0 lo) ++ es ++ ds.drop (max (HT.sIx ds.length 0 lo) (HT.sIx ds.length ds.length hi))
def setSl (x : D) (lo hi : Option Int) (d : D) (S : Sto) : Option Sto := match x, d with
  | .loc n, .loc k => match S[n]?, S[k]? with
    | some (.lst ds), some (.lst es) => if n ≠ k ∧ ds.length + es.length ≤ sizeLine then some (S.set n (.lst (putSl ds es lo hi))) else none
    | _, _ => none
  | _, _ => none
def kDi : Key → D
  | .inl i => .int i
  | .inr x => .str x
def asDic (x : D) (S : Sto) : Option Nat := match x with
  | .loc n => (dicAt S n).map fun _ => n
  | _ => none
def dgetD (x y z : D) (S : Sto) : Option D := (dicD S x).bind fun kvs => (kD y).map fun k => (valA kvs k).getD z
def dgetnD (x y z : D) (S : Sto) : Option D := (dnD S x).bind fun kvs => (kT y).map fun k => (valA kvs k).getD z
def ddL : List D → List (Key × D) → Option (List (Key × D))
  | [], acc => some acc
  | [_], _ => none
  | k :: v :: r, acc => (kD k).bind fun k => ddL r (putA acc k v)
def ddD (n : Nat) (xs : List D) (S : Sto) : R D := match S[n]?, ddL xs [] with
  | some (.dic []), some kvs => if xs.length ≤ 30 then .ok (.loc n) (S.set n (.dic kvs)) else .bad
  | _, _ => .bad
def ddnL : List D → List (NestedKey × D) → Option (List (NestedKey × D))
  | [], acc => some acc
  | [_], _ => none
  | k :: v :: r, acc => (kT k).bind fun k => ddnL r (putA acc k v)
def ddnD (n : Nat) (xs : List D) (S : Sto) : R D := match S[n]?, ddnL xs [] with
  | some (.dn []), some kvs => if xs.length ≤ 30 then .ok (.loc n) (S.set n (.dn kvs)) else .bad
  | _, _ => .bad
def xfs : Nat → List Str
  | 9 => ["direction"]
  | 10 => ["limit"]
  | _ => []
def fldD (f : Str) : D → Option D
  | .exn c ps => if (xfs c).length = ps.length then ((xfs c).zip ps).lookup f else none
  | _ => none
def dixD (x y : D) (S : Sto) : Option D := (dicD S x).bind fun kvs => (kD y).bind fun k => valA kvs k
def dsetdD (n : Nat) (y z : D) (S : Sto) : R D := match S[n]?, kD y with
  | some (.dic kvs), some k => if kvs.length < sizeLine then (match valA kvs k with
    | some v => .ok v S
    | none => .ok z (S.set n (.dic (putA kvs k z)))) else .bad
  | _, _ => .bad
def srcOf (x : D) (S : Sto) : Option Src := match x with
  | .fl ds => some (.ds ds)
  | .tup ds => some (.ds ds)
  | .loc n => (lstAt S n).map fun _ => .lst n
  | .str z => some (.ds (z.cps.toList.map fun c => .str ⟨#[c]⟩))
  | _ => none
def Src.get (s : Src) (i : Nat) (S : Sto) : Option (Option D) := match s with
  | .lst n => (lstAt S n).map fun ds => ds[i]?
  | .ds l => some l[i]?
  | .zip n k => (lstAt S n).bind fun a => (lstAt S k).map fun b => a[i]?.bind fun x => b[i]?.map fun y => .tup [x, y]
  | .enum n => (lstAt S n).map fun ds => ds[i]?.map fun x => .tup [.int (i : Nat), x]
  | .zipF n l => (lstAt S n).map fun a => a[i]?.bind fun x => l[i]?.map fun y => .tup [x, y]
def Src.size (s : Src) (S : Sto) : Nat := match s with
  | .lst n => ((lstAt S n).getD []).length
  | .ds l => l.length
  | .zip n _ => ((lstAt S n).getD []).length
  | .enum n => ((lstAt S n).getD []).length
  | .zipF n _ => ((lstAt S n).getD []).length
mutual
def bindT : Xp → D → Env → Option Env
  | .var i, d, ρ => some (ρ.set i (some d))
  | .tup t, d, ρ => match d with
    | .tup ds => bindL t ds ρ
    | _ => none
  | .lst t, d, ρ => match d with
    | .fl ds => bindL t ds ρ
    | _ => none
  | _, _, _ => none
def bindL : Xp → List D → Env → Option Env
  | .nil, [], ρ => some ρ
  | .cons a b, d :: ds, ρ => (bindT a d ρ).bind fun ρ1 => bindL b ds ρ1
  | _, _, _ => none
end
def wipeE (ρ : Env) : List Nat → Env
  | [] => ρ
  | v :: vs => (wipeE ρ vs).set v none
def lcl (src : Src) (tg : Xp) (cond : Env → Sto → R Bool) (elt : Env → Sto → R D) (ρ : Env) : Nat → Nat → List D → Sto → R (List D)
  | 0, _, _, _ => .bad
  | n + 1, i, acc, S => match src.get i S with
    | none => .bad
    | some none => .ok acc S
    | some (some d) => match bindT tg d ρ with
      | none => .bad
      | some ρ1 => match cond ρ1 S with
        | .ok true S1 => match elt ρ1 S1 with
          | .ok y S2 => if acc.length < sizeLine then lcl src tg cond elt ρ n (i + 1) (acc ++ [y]) S2 else .bad
          | _ => .bad
        | .ok false S1 => lcl src tg cond elt ρ n (i + 1) acc S1
        | _ => .bad
def lcl2 (src : Src) (tg : Xp) (cond : Env → Sto → R Bool) (inn : Env → List D → Sto → R (List D)) (ρ : Env) : Nat → Nat → List D → Sto → R (List D)
  | 0, _, _, _ => .bad
  | n + 1, i, acc, S => match src.get i S with
    | none => .bad
    | some none => .ok acc S
    | some (some d) => match bindT tg d ρ with
      | none => .bad
      | some ρ1 => match cond ρ1 S with
        | .ok true S1 => match inn ρ1 acc S1 with
          | .ok acc2 S2 => lcl2 src tg cond inn ρ n (i + 1) acc2 S2
          | _ => .bad
        | .ok false S1 => lcl2 src tg cond inn ρ n (i + 1) acc S1
        | _ => .bad
def lcld (src : Src) (tg : Xp) (cond : Env → Sto → R Bool) (key val : Env → Sto → R D) (ρ : Env) : Nat → Nat → List (Key × D) → Sto → R (List (Key × D))
  | 0, _, _, _ => .bad
  | n + 1, i, acc, S => match src.get i S with
    | none => .bad
    | some none => .ok acc S
    | some (some d) => match bindT tg d ρ with
      | none => .bad
      | some ρ1 => match cond ρ1 S with
        | .ok true S1 => match key ρ1 S1 with
          | .ok x S2 => match val ρ1 S2 with
            | .ok y S3 => match kD x with
              | some k => if acc.length < sizeLine then lcld src tg cond key val ρ n (i + 1) (putA acc k y) S3 else .bad
              | none => .bad
            | _ => .bad
          | _ => .bad
        | .ok false S1 => lcld src tg cond key val ρ n (i + 1) acc S1
        | _ => .bad
def insF (S : Sto) (x : D) (f : Str) : Option D := match x with
  | .loc n => match S[n]? with
    | some (.ins _ fs) => fs.lookup f
    | _ => none
  | _ => none
def insM (S : Sto) (x : D) (c : Nat) (m : Str) : Bool := match x with
  | .loc n => match S[n]? with
    | some (.ins c' fs) => c' == c && (fs.lookup m).isNone
    | _ => false
  | _ => false
def setFs (f : Str) (d : D) : List (Str × D) → List (Str × D)
  | [] => [(f, d)]
  | (g, x) :: r => if g = f then (g, d) :: r else (g, x) :: setFs f d r
def insS (S : Sto) (x : D) (f : Str) (d : D) : Option Sto := match x with
  | .loc n => match S[n]? with
    | some (.ins c fs) => if fs.length < 30 then some (S.set n (.ins c (setFs f d fs))) else none
    | _ => none
  | _ => none
def permL {α : Type} (vs : List α) : List Nat → Option (List α)
  | [] => some []
  | p :: ps => (vs[p]?).bind fun v => (permL vs ps).map (v :: ·)
def fnIx (t : List (Str × Nat)) : D → Option Nat
  | .fn x => t.lookup x
  | _ => none
def enumL : Nat → List D → List D
  | _, [] => []
  | i, d :: ds => .tup [.int (i : Nat), d] :: enumL (i + 1) ds
def rangeD (lo : Int) (n : Nat) : List D := (List.range n).map fun i : Nat => .int (lo + (i : Nat))
def small62 (i : Int) : Bool := decide (-(2 ^ 62) ≤ i) && decide (i < 2 ^ 62)
def asT (r : R D) : R Bool := r.bind fun x S => R.opt (truth x S) S
def asI (r : R D) : R Int := r.bind fun x S => match x with
  | .int i => .ok i S
  | _ => .bad
mutual
noncomputable def ev (C : CallSem) (G : Nat → Option D) : Xp → Env → Sto → R D
  | .var i, ρ, S => R.opt (ρ[i]?.bind id) S
  | .glo x, _, S => R.opt (G x) S
  | .non, _, S => .ok .non S
  | .bl b, _, S => .ok (.bl b) S
  | .int i, _, S => .ok (.int i) S
  | .str x, _, S => .ok (.str x) S
  | .tyc t, _, S => .ok (.ty t) S
  | .bin op a b, ρ, S => (ev C G a ρ S).bind fun x S1 => (ev C G b ρ S1).bind fun y S2 => binD op x y S2
  | .neg a, ρ, S => (asI (ev C G a ρ S)).bind fun i S1 => .ok (.int (-i)) S1
  | .nt a, ρ, S => (asT (ev C G a ρ S)).bind fun b S1 => .ok (.bl (!b)) S1
  | .and a b, ρ, S => (ev C G a ρ S).bind fun x S1 => match truth x S1 with
    | some true => ev C G b ρ S1
    | some false => .ok x S1
    | none => .bad
  | .or a b, ρ, S => (ev C G a ρ S).bind fun x S1 => match truth x S1 with
    | some true => .ok x S1
    | some false => ev C G b ρ S1
    | none => .bad
  | .cmp op a b, ρ, S => (ev C G a ρ S).bind fun x S1 => (ev C G b ρ S1).bind fun y S2 => R.opt ((cmpD op x y S2).map .bl) S2
  | .cmp2 op op' a b c, ρ, S => (ev C G a ρ S).bind fun x S1 => (ev C G b ρ S1).bind fun y S2 => match cmpD op x y S2 with
    | some true => (ev C G c ρ S2).bind fun z S3 => R.opt ((cmpD op' y z S3).map .bl) S3
    | some false => .ok (.bl false) S2
    | none => .bad
  | .ife c a b, ρ, S => (asT (ev C G c ρ S)).bind fun t S1 => if t then ev C G a ρ S1 else ev C G b ρ S1
  | .call f es, ρ, S => (evs C G es ρ S).bind fun xs S1 => C f xs S1
  | .callk f es ks perm, ρ, S => (evs C G es ρ S).bind fun xs S1 => (evs C G ks ρ S1).bind fun ys S2 => match permL (xs ++ ys) perm with
    | some zs => C f zs S2
    | none => .bad
  | .callv t f es, ρ, S => (ev C G f ρ S).bind fun g S0 => match fnIx t g with
    | some i => (evs C G es ρ S0).bind fun xs S1 => C i xs S1
    | none => .bad
  | .callvk t f es ks perm, ρ, S => (ev C G f ρ S).bind fun g S0 => match fnIx t g with
    | some i => (evs C G es ρ S0).bind fun xs S1 => (evs C G ks ρ S1).bind fun ys S2 => match permL (xs ++ ys) perm with
      | some zs => C i zs S2
      | none => .bad
    | none => .bad
  | .dnn, _, S => mk (.dn []) S
  | .ddn es, ρ, S => (evs C G es ρ (S ++ [.dn []])).bind fun xs S1 => ddnD S.length xs S1
  | .dd es, ρ, S => (evs C G es ρ (S ++ [.dic []])).bind fun xs S1 => ddD S.length xs S1
  | .xfld f a, ρ, S => (ev C G a ρ S).bind fun x S1 => R.opt (fldD f x) S1
  | .mkx c es, ρ, S => (evs C G es ρ S).bind fun xs S1 => .ok (.exn c xs) S1
  | .bi b es, ρ, S => (evs C G es ρ S).bind fun xs S1 => biD b xs S1
  | .mt m o es, ρ, S => (ev C G o ρ S).bind fun x S1 => if isLst x S1 then (evs C G es ρ S1).bind fun xs S2 => mtD m x xs S2 else .bad
  | .dnew, _, S => mk (.dic []) S
  | .dget o k v, ρ, S => (ev C G o ρ S).bind fun x S1 => match dicD S1 x with
    | some _ => (ev C G k ρ S1).bind fun y S2 => (ev C G v ρ S2).bind fun z S3 => R.opt (dgetD x y z S3) S3
    | none => .bad
  | .dgetn o k v, ρ, S => (ev C G o ρ S).bind fun x S1 => match dnD S1 x with
    | some _ => (ev C G k ρ S1).bind fun y S2 => (ev C G v ρ S2).bind fun z S3 => R.opt (dgetnD x y z S3) S3
    | none => .bad
  | .dsetd o k v, ρ, S => (ev C G o ρ S).bind fun x S1 => match asDic x S1 with
    | some n => (ev C G k ρ S1).bind fun y S2 => (ev C G v ρ S2).bind fun z S3 => dsetdD n y z S3
    | none => .bad
  | .sumv o, ρ, S => (ev C G o ρ S).bind fun x S1 => match dicD S1 x with
    | some kvs => R.opt ((intsOf (kvs.map (·.2))).map fun ns => .int ns.sum) S1
    | none => .bad
  | .lix o e, ρ, S => (ev C G o ρ S).bind fun x S1 => if (lstD S1 x).isSome then (ev C G e ρ S1).bind fun y S2 => R.opt (lixD x y S2) S2 else .bad
  | .lset o, ρ, S => (ev C G o ρ S).bind fun x S1 => R.opt (((lstD S1 x).bind lsetL).map fun (n : Nat) => D.int n) S1
  | .gdx t e, ρ, S => (ev C G e ρ S).bind fun x S1 => match x with
    | .str z => R.opt (t.lookup z) S1
    | _ => .bad
  | .ix a b, ρ, S => (ev C G a ρ S).bind fun x S1 => (ev C G b ρ S1).bind fun y S2 => R.opt (ixD x y S2) S2
  | .sl a lo hi, ρ, S => (ev C G a ρ S).bind fun x S1 => (evp C G lo ρ S1).bind fun l S2 => (evp C G hi ρ S2).bind fun h S3 => slD x l h S3
  | .frzv a, ρ, S => trim S ((ev C G a ρ S).bind fun x S1 => frzD x S1)
  | .rev a, ρ, S => (ev C G a ρ S).bind fun x S1 => revD x S1
  | .tup es, ρ, S => (evs C G es ρ S).bind fun xs S1 => if xs.length ≤ 1000 then .ok (.tup xs) S1 else .bad
  | .lst es, ρ, S => (evs C G es ρ S).bind fun xs S1 => if xs.length ≤ 1000 then mk (.lst xs) S1 else .bad
  | .lc it tg elt cond vs, ρ, S => (evi C G it ρ S).bind fun src S1 =>
    (lcl src tg (fun ρ1 S2 => asT (ev C G cond ρ1 S2)) (fun ρ1 S2 => ev C G elt ρ1 S2) (wipeE ρ vs) (src.size S1 + 1) 0 [] S1).bind fun ds S2 => mk (.lst ds) S2
  | .lc2 it tg cond it1 tg1 cond1 elt vs vs1, ρ, S => (evi C G it ρ S).bind fun src S1 =>
    (lcl2 src tg (fun ρ1 S2 => asT (ev C G cond ρ1 S2)) (fun ρ1 acc S2 => match evi C G it1 ρ1 S2 with
      | .ok src1 S3 => lcl src1 tg1 (fun ρ2 S4 => asT (ev C G cond1 ρ2 S4)) (fun ρ2 S4 => ev C G elt ρ2 S4) (wipeE ρ1 vs1) (src1.size S3 + 1) 0 acc S3
      | _ => .bad) (wipeE ρ vs) (src.size S1 + 1) 0 [] S1).bind fun ds S2 => mk (.lst ds) S2
  | .prm f es, ρ, S => (evs C G es ρ S).bind fun xs S1 => f xs S1
  | .fld f o, ρ, S => (ev C G o ρ S).bind fun x S1 => R.opt (insF S1 x f) S1
  | .meth m c i o es, ρ, S => (ev C G o ρ S).bind fun x S1 => if insM S1 x c m then (evs C G es ρ S1).bind fun xs S2 => C i (x :: xs) S2 else .bad
  | .mko c i es, ρ, S => (evs C G es ρ S).bind fun xs S1 => (C i (.loc S1.length :: xs) (S1 ++ [.ins c []])).bind fun r S2 => match r with
    | .non => .ok (.loc S1.length) S2
    | _ => .bad
  | .lcd it tg k v cond vs, ρ, S => (evi C G it ρ S).bind fun src S1 =>
    (lcld src tg (fun ρ1 S2 => asT (ev C G cond ρ1 S2)) (fun ρ1 S2 => ev C G k ρ1 S2) (fun ρ1 S2 => ev C G v ρ1 S2) (wipeE ρ vs) (src.size S1 + 1) 0 [] S1).bind fun kvs S2 => mk (.dic kvs) S2
  | _, _, _ => .bad
noncomputable def evs (C : CallSem) (G : Nat → Option D) : Xp → Env → Sto → R (List D)
  | .nil, _, S => .ok [] S
  | .cons a b, ρ, S => (ev C G a ρ S).bind fun x S1 => (evs C G b ρ S1).bind fun xs S2 => .ok (x :: xs) S2
  | _, _, _ => .bad
noncomputable def evp (C : CallSem) (G : Nat → Option D) : Xp → Env → Sto → R (Option Int)
  | .nil, _, S => .ok none S
  | .cons a _, ρ, S => (asI (ev C G a ρ S)).bind fun i S1 => .ok (some i) S1
  | _, _, _ => .bad
noncomputable def evi (C : CallSem) (G : Nat → Option D) : Xp → Env → Sto → R Src
  | .itr a, ρ, S => (ev C G a ρ S).bind fun x S1 => R.opt (srcOf x S1) S1
  | .dit o, ρ, S => (ev C G o ρ S).bind fun x S1 => match x with
    | .fd ks ds => .ok (.ds ((ks.zip ds).map fun kv => .tup [kDi kv.1, kv.2])) S1
    | _ => .bad
  | .dks o, ρ, S => (ev C G o ρ S).bind fun x S1 => match x with
    | .fd ks ds => .ok (.ds ((ks.zip ds).map fun kv => kDi kv.1)) S1
    | _ => .bad
  | .dksn o, ρ, S => (ev C G o ρ S).bind fun x S1 => match x with
    | .fm ks ds => .ok (.ds ((ks.zip ds).map fun kv => nD kv.1)) S1
    | _ => .bad
  | .dvs o, ρ, S => (ev C G o ρ S).bind fun x S1 => match x with
    | .fd ks ds => .ok (.ds ((ks.zip ds).map fun kv => kv.2)) S1
    | _ => .bad
  | .rng1 a, ρ, S => (asI (ev C G a ρ S)).bind fun i S1 => if small62 i then .ok (.ds (rangeD 0 i.toNat)) S1 else .bad
  | .rng2 a b, ρ, S => (asI (ev C G a ρ S)).bind fun i S1 => (asI (ev C G b ρ S1)).bind fun j S2 => if small62 i && small62 j then .ok (.ds (rangeD i (j - i).toNat)) S2 else .bad
  | .zip2 a b, ρ, S => (ev C G a ρ S).bind fun x S1 => (ev C G b ρ S1).bind fun y S2 => match x, y with
    | .loc n, .loc k => match lstAt S2 n, lstAt S2 k with
      | some _, some _ => .ok (.zip n k) S2
      | _, _ => .bad
    | .tup xs, .tup ys => .ok (.ds ((xs.zip ys).map fun p => .tup [p.1, p.2])) S2
    | .fl xs, .fl ys => .ok (.ds ((xs.zip ys).map fun p => .tup [p.1, p.2])) S2
    | .fl xs, .tup ys => .ok (.ds ((xs.zip ys).map fun p => .tup [p.1, p.2])) S2
    | .loc n, .fl ys => match lstAt S2 n with
      | some _ => .ok (.zipF n ys) S2
      | none => .bad
    | _, _ => .bad
  | .enum a, ρ, S => (ev C G a ρ S).bind fun x S1 => match x with
    | .fl ds => .ok (.ds (enumL 0 ds)) S1
    | .loc n => match lstAt S1 n with
      | some _ => .ok (.enum n) S1
      | none => .bad
    | _ => .bad
  | .itp f es, ρ, S => (evs C G es ρ S).bind fun xs S1 => f xs S1
  | _, _, _ => .bad
end
inductive Rs where
  | nx (ρ : Env) (S : Sto) | rt (d : D) (S : Sto) | bk (ρ : Env) (S : Sto) | ct (ρ : Env) (S : Sto) | exc (c : Nat) (p : List D) (ρ : Env) (S : Sto) | bad
inductive Sx where
  | pass | ex (e : Xp) | asg (t e : Xp) | par (js : List Nat) (es : Xp) | aug (i : Nat) (op : Operator) (e : Xp) | augx (o i : Xp) (op : Operator) (e : Xp)
  | iff (c : Xp) (a b : Sx) | whl (c : Xp) (b : Sx) | for_ (t it : Xp) (b : Sx) | ret (e : Xp) | brk | cont | rse (c : Nat) (e : Xp)
  | tryS (b : Sx) (cs : List (Nat × Bool)) (s : Sx)
  | tryA (b : Sx) (o : Option Nat) (cs : List (Nat × Bool)) (s : Sx)
  | asgs (ts es : Xp) | fset (o : Xp) (f : Str) (e : Xp)
  | fz (i : Nat) (b : Sx) | wip (i : Nat) (b : Sx) | nil | cons (a b : Sx)
def ofR {α : Type} (r : R α) (ρ : Env) (f : α → Sto → Rs) : Rs := match r with
  | .ok a S => f a S
  | .exc c p S => .exc c p ρ S
  | .bad => .bad
@[simp] theorem ofR_ok {α : Type} (a : α) (S : Sto) (ρ : Env) (f : α → Sto → Rs) : ofR (.ok a S) ρ f = f a S := rfl
@[simp] theorem ofR_bad {α : Type} (ρ : Env) (f : α → Sto → Rs) : ofR (.bad : R α) ρ f = .bad := rfl
@[simp] theorem ofR_exc {α : Type} (c : Nat) (p : List D) (S : Sto) (ρ : Env) (f : α → Sto → Rs) : ofR (.exc c p S : R α) ρ f = .exc c p ρ S := rfl
noncomputable def setT (C : CallSem) (G : Nat → Option D) (t : Xp) (d : D) (ρ : Env) (S : Sto) : Rs := match t with
  | .ix o i => ofR (ev C G o ρ S) ρ fun x S1 => ofR (ev C G i ρ S1) ρ fun y S2 => match setIx x y d S2 with
    | some S3 => .nx ρ S3
    | none => .bad
  | .sl o l h => ofR (ev C G o ρ S) ρ fun x S1 => ofR (evp C G l ρ S1) ρ fun a S2 => ofR (evp C G h ρ S2) ρ fun b S3 => match setSl x a b d S3 with
    | some S4 => .nx ρ S4
    | none => .bad
  | t => match bindT t d ρ with
    | some ρ1 => .nx ρ1 S
    | none => .bad
noncomputable def setTs (C : CallSem) (G : Nat → Option D) : Xp → List D → Env → Sto → Rs
  | .nil, [], ρ, S => .nx ρ S
  | .cons t ts, d :: ds, ρ, S => match setT C G t d ρ S with
    | .nx ρ1 S1 => setTs C G ts ds ρ1 S1
    | r => r
  | _, _, _, _ => .bad
def parE : List Nat → List D → Env → Option Env
  | [], [], ρ => some ρ
  | j :: js, d :: ds, ρ => parE js ds (ρ.set j (some d))
  | _, _, _ => none
def whl (c : Env → Sto → R Bool) (b : Env → Sto → Rs) : Nat → Env → Sto → Rs
  | 0, _, _ => .bad
  | n + 1, ρ, S => ofR (c ρ S) ρ fun t S1 => if t then (match b ρ S1 with
    | .nx ρ2 S2 => whl c b n ρ2 S2
    | .ct ρ2 S2 => whl c b n ρ2 S2
    | .bk ρ2 S2 => .nx ρ2 S2
    | r => r) else .nx ρ S1
def forl (src : Src) (tg : Xp) (b : Env → Sto → Rs) : Nat → Nat → Env → Sto → Rs
  | 0, _, _, _ => .bad
  | n + 1, i, ρ, S => match src.get i S with
    | none => .bad
    | some none => .nx ρ S
    | some (some d) => match bindT tg d ρ with
      | none => .bad
      | some ρ1 => match b ρ1 S with
        | .nx ρ2 S2 => forl src tg b n (i + 1) ρ2 S2
        | .ct ρ2 S2 => forl src tg b n (i + 1) ρ2 S2
        | .bk ρ2 S2 => .nx ρ2 S2
        | r => r
def envLt (k : Nat) (ρ : Env) : Bool := ρ.all fun o => match o with
  | some d => d.lt k
  | none => true
def asE (o : Option Nat) (d : D) (ρ : Env) : Env := match o with
  | some i => ρ.set i (some d)
  | none => ρ
def unO (o : Option Nat) (ρ : Env) : Env := match o with
  | some i => ρ.set i none
  | none => ρ
def suiteR (o : Option Nat) : Rs → Rs
  | .nx ρ S => .nx (unO o ρ) S
  | .bk ρ S => .bk (unO o ρ) S
  | .ct ρ S => .ct (unO o ρ) S
  | .rt d S => .rt d S
  | .exc _ _ _ _ => .bad
  | .bad => .bad
noncomputable def fzE (i : Nat) (S : Sto) (ρ : Env) (S1 : Sto) : Rs := match ρ[i]?.bind id with
  | some d => match frzD d S1 with
    | .ok d2 S2 => .nx (ρ.set i (some d2)) (cutS S (envLt S.length (ρ.set i (some d2))) S2)
    | _ => .bad
  | none => .bad
noncomputable def run (W : Nat) (C : CallSem) (G : Nat → Option D) : Sx → Env → Sto → Rs
  | .pass, ρ, S => .nx ρ S
  | .ex e, ρ, S => ofR (ev C G e ρ S) ρ fun _ S1 => .nx ρ S1
  | .asg t e, ρ, S => ofR (ev C G e ρ S) ρ fun d S1 => setT C G t d ρ S1
  | .par js es, ρ, S => ofR (evs C G es ρ S) ρ fun ds S1 => match parE js ds ρ with
    | some ρ1 => .nx ρ1 S1
    | none => .bad
  | .aug i op e, ρ, S => match ρ[i]?.bind id with
    | some x => ofR (ev C G e ρ S) ρ fun y S1 => ofR (augD op x y S1) ρ fun z S2 => .nx (ρ.set i (some z)) S2
    | none => .bad
  | .augx o i op e, ρ, S => ofR (ev C G o ρ S) ρ fun x S1 => ofR (ev C G i ρ S1) ρ fun y S2 => match dixD x y S2 with
    | some old => ofR (ev C G e ρ S2) ρ fun z S3 => ofR (augD op old z S3) ρ fun r S4 => match setIx x y r S4 with
      | some S5 => .nx ρ S5
      | none => .bad
    | none => .bad
  | .asgs ts es, ρ, S => ofR (evs C G es ρ S) ρ fun ds S1 => setTs C G ts ds ρ S1
  | .fset o f e, ρ, S => ofR (ev C G e ρ S) ρ fun d S1 => ofR (ev C G o ρ S1) ρ fun x S2 => match insS S2 x f d with
    | some S3 => .nx ρ S3
    | none => .bad
  | .iff c a b, ρ, S => ofR (asT (ev C G c ρ S)) ρ fun t S1 => if t then run W C G a ρ S1 else run W C G b ρ S1
  | .whl c b, ρ, S => whl (fun ρ S => asT (ev C G c ρ S)) (fun ρ S => run W C G b ρ S) W ρ S
  | .for_ t it b, ρ, S => ofR (evi C G it ρ S) ρ fun src S1 => forl src t (fun ρ S => run W C G b ρ S) (src.size S1 + 1) 0 ρ S1
  | .ret e, ρ, S => ofR (ev C G e ρ S) ρ fun d S1 => .rt d S1
  | .brk, ρ, S => .bk ρ S
  | .cont, ρ, S => .ct ρ S
  | .rse c e, ρ, S => ofR (evs C G e ρ S) ρ fun p S1 => .exc c p ρ S1
  | .tryS b cs s, ρ, S => match run W C G b ρ S with
    | .exc c' p ρ1 S1 => match cs.lookup c' with
      | some true => run W C G s ρ1 S1
      | some false => .exc c' p ρ1 S1
      | none => .bad
    | r => r
  | .tryA b o cs s, ρ, S => match run W C G b ρ S with
    | .exc c' p ρ1 S1 => match cs.lookup c' with
      | some true => suiteR o (run W C G s (asE o (.exn c' p) ρ1) S1)
      | some false => .exc c' p ρ1 S1
      | none => .bad
    | r => r
  | .fz i b, ρ, S => match run W C G b ρ S with
    | .nx ρ1 S1 => fzE i S ρ1 S1
    | r => r
  | .wip i b, ρ, S => run W C G b (ρ.set i none) S
  | .nil, ρ, S => .nx ρ S
  | .cons a b, ρ, S => match run W C G a ρ S with
    | .nx ρ1 S1 => run W C G b ρ1 S1
    | r => r
structure Fd where
  np : Nat
  n : Nat
  body : Sx
def startE (n : Nat) (ds : List D) : Env := ds.map some ++ List.replicate (n - ds.length) none
def endR (r : Rs) : R D := match r with
  | .nx _ S => .ok .non S
  | .rt d S => .ok d S
  | .exc c p _ S => .exc c p S
  | _ => .bad
noncomputable def callF (W : Nat) (G : Nat → Option D) (T : Nat → Option Fd) : Nat → CallSem
  | 0, _, _, _ => .bad
  | k + 1, f, ds, S => match T f with
    | some fd => if ds.length = fd.np then trim S (endR (run W (callF W G T k) G fd.body (startE fd.n ds) S)) else .bad
    | none => .bad
end CC
namespace CC
open PySem PySem.Spec PyProof.Rows L2
structure KW where
  f : PySem.W.Frag
  w : World
  hx : Option Addr
def hxA (A : Around) : Option Addr := match A.handled with
  | some (.ref a) => some a
  | _ => none
theorem hxA_none {A : Around} (h : A.handled = none) : hxA A = none := by unfold hxA; rw [h]
instance : Coe KW PySem.W.Frag := ⟨KW.f⟩
abbrev _root_.L2.Cx.kw (X : Cx) : KW := ⟨X.K, X.w, hxA X.A⟩
def SqU (K : PySem.W.Frag) (H : Hp) (a : Addr) (xs : List V) : Prop :=
  H a = some (.tup xs) ∨ ∃ (o : Obj) (its : Array Value) (n : Nat), K.lookup a = some o ∧ o.cls = .type "tuple" ∧ o.data = .seq its n ∧ its.size ≤ sizeLine ∧ Vals xs its.toList
theorem SqU.t {K : PySem.W.Frag} {H : Hp} {a : Addr} {xs : List V} (h : SqU K H a xs) : SqT K H a xs := by
  rcases h with h | h
  · exact .inl (.inl h)
  · exact .inr h
abbrev Mp := List (Addr × Bool)
def exNames : List Str := ["CityError", "InvalidCity", "InvalidStreet", "InvalidStreets", "InvalidPoint", "InvalidDrive", "InvalidCount", "InvalidText", "NothingToUndo", "MissingDirection", "TooLarge"]
def XcO (cls : Value) (d : Option Addr) (a : Addr) : HO := .ext fun h => ∃ (oe : Obj) (vs : Array Value), h.get? a = some oe ∧ L2N.Zn cls d oe ∧ oe.data = .fields vs
def XFld (H : Hp) (c : Nat) (d : Option Addr) (vs : List V) : Prop := (d = none ∧ vs = []) ∨ ∃ dd, d = some dd ∧ H dd = some (.xd ((xfs c).zip vs)) ∧ (xfs c).length = vs.length ∧ vs ≠ []
def entN (w : World) (x : NestedKey × Addr × Value) : DictEntry := ⟨x.1.hash w, .ref x.2.1, x.2.2⟩
abbrev XV : List (NestedKey × Addr × V) → List (NestedKey × Addr × Value) → Prop := Paired fun p q => p.1 = q.1 ∧ p.2.1 = q.2.1 ∧ RelV p.2.2 q.2.2
def rawN (w : World) (h : Heap) (a : Addr) (ys : List (NestedKey × Addr × Value)) : Prop := ∃ o es ep, h.get? a = some o ∧ o.ExactDict ∧ o.data = .dict es ep ∧ es.toList = ys.map (entN w) ∧ (ys.map (·.1)).Nodup
def DnO (w : World) (a : Addr) (xs : List (NestedKey × Addr × V)) : HO := .ext fun h => xs.length ≤ sizeLine ∧ (∀ x ∈ xs, x.1.depth ≤ 8) ∧ (a == sysModules) = false ∧ ∃ ys, XV xs ys ∧ rawN w h a ys
def BdO (w : World) (a : Addr) (vs : List (Bool × V)) : HO := .ext fun h => (a == sysModules) = false ∧ ∃ us, KV vs us ∧ ∀ P : Program, h.DictOf (PpSet.boolK P w) a us
def isXO : HO → Prop
  | .xd _ => True
  | _ => False
def insNames : List Str := ["KeptGrid", "LiveCity"]
mutual
inductive Rp (K : KW) (mg : Str → Option Value) (m : Mp) (H : Hp) : D → V → Prop
  | non : Rp K mg m H .non .non
  | bl (b : Bool) : Rp K mg m H (.bl b) (.bl b)
  | int (i : Int) : Rp K mg m H (.int i) (.int i)
  | str (x : Str) : Rp K mg m H (.str x) (.str x)
  | ty (t : String) : Rp K mg m H (.ty t) (.ty t)
  | fn {x : Str} {a : Addr} (h : mg x = some (.ref a)) : Rp K mg m H (.fn x) (.ref a)
  | tup {a : Addr} {vs : List V} {ds : List D} (h : SqU K H a vs) (hs : Rps K mg m H ds vs) : Rp K mg m H (.tup ds) (.ref a)
  | loc {n : Nat} {a : Addr} {b : Bool} (h : m[n]? = some (a, b)) : Rp K mg m H (.loc n) (.ref a)
  | fl {a : Addr} {o : Obj} {vs : List V} {ds : List D} (h : H a = some (.frz o (.lst vs))) (hs : Rps K mg m H ds vs) : Rp K mg m H (.fl ds) (.ref a)
  | fd {a : Addr} {o : Obj} {kvs : List (Key × V)} {ks : List Key} {ds : List D} (h : H a = some (.frz o (.dK kvs))) (hk : ks = kvs.map (·.1)) (hs : Rps K mg m H ds (kvs.map (·.2))) : Rp K mg m H (.fd ks ds) (.ref a)
  | exn {c : Nat} {x : Str} {A a : Addr} {oe : Obj} {d : Option Addr} {ps : List D} {vs : List V} (h1 : exNames[c]? = some x) (h2 : mg x = some (.ref A)) (h : H a = some (.frz oe (XcO (.ref A) d a))) (hf : XFld H c d vs) (hs : Rps K mg m H ps vs) : Rp K mg m H (.exn c ps) (.ref a)
  | cls {c : Nat} {x : Str} {A : Addr} (h1 : exNames[c]? = some x) (h2 : mg x = some (.ref A)) : Rp K mg m H (.cls c) (.ref A)
  | fm {a : Addr} {o : Obj} {xs : List (NestedKey × Addr × V)} {ks : List NestedKey} {ds : List D} (h : H a = some (.frz o (DnO K.w a xs))) (hk : ks = xs.map (·.1)) (hq : Rps K mg m H (nDs ks) (xs.map fun x => V.ref x.2.1)) (hs : Rps K mg m H ds (xs.map (·.2.2))) : Rp K mg m H (.fm ks ds) (.ref a)
  | bd {a : Addr} {o : Obj} {x y : V} {ds : List D} (h : H a = some (.frz o (BdO K.w a [(true, x), (false, y)]))) (hs : Rps K mg m H ds [x, y]) : Rp K mg m H (.bd ds) (.ref a)
  | bm {a : Addr} {o : Obj} {xs : List (NestedKey × Addr × V)} {ks : List D} {ds : List D} (h : H a = some (.frz o (DnO K.w a xs))) (hk : kBs ks = some (xs.map (·.1))) (hq : Rps K mg m H ks (xs.map fun x => V.ref x.2.1)) (hs : Rps K mg m H ds (xs.map (·.2.2))) : Rp K mg m H (.bd [.tup ks, .tup ds, .non]) (.ref a)
inductive Rps (K : KW) (mg : Str → Option Value) (m : Mp) (H : Hp) : List D → List V → Prop
  | nil : Rps K mg m H [] []
  | cons {d : D} {v : V} {ds : List D} {vs : List V} (h : Rp K mg m H d v) (hs : Rps K mg m H ds vs) : Rps K mg m H (d :: ds) (v :: vs)
end
structure Le (m m' : Mp) (H H' : Hp) : Prop where
  pre : ∀ (n : Nat) (a : Addr × Bool), m[n]? = some a → m'[n]? = some a
  tup : ∀ (a : Addr) (vs : List V), H a = some (.tup vs) → H' a = some (.tup vs)
  fz : ∀ (a : Addr) (o : Obj) (u : HO), H a = some (.frz o u) → H' a = some (.frz o u)
  ex : ∀ (a : Addr) (o : HO), H a = some o → isXO o → H' a = some o
  frame : ∀ (a : Addr) (o : HO), H a = some o → (a, false) ∉ m → H' a = some o ∧ (a, false) ∉ m'
structure Lt (m m' : Mp) (H H' : Hp) : Prop where
  pre : ∀ (n : Nat) (a : Addr × Bool), m[n]? = some a → m'[n]? = some a
  tup : ∀ (a : Addr) (vs : List V), H a = some (.tup vs) → H' a = some (.tup vs)
  fz : ∀ (a : Addr) (o : Obj) (u : HO), H a = some (.frz o u) → H' a = some (.frz o u)
  ex : ∀ (a : Addr) (o : HO), H a = some o → isXO o → H' a = some o
theorem Le.lt {m m' : Mp} {H H' : Hp} (l : Le m m' H H') : Lt m m' H H' := ⟨l.pre, l.tup, l.fz, l.ex⟩
theorem Lt.refl (m : Mp) (H : Hp) : Lt m m H H := ⟨fun _ _ h => h, fun _ _ h => h, fun _ _ _ h => h, fun _ _ h _ => h⟩
theorem Lt.trans {m m1 m2 : Mp} {H H1 H2 : Hp} (a : Lt m m1 H H1) (b : Lt m1 m2 H1 H2) : Lt m m2 H H2 := ⟨fun n x h => b.pre n x (a.pre n x h), fun x vs h => b.tup x vs (a.tup x vs h), fun x o u h => b.fz x o u (a.fz x o u h), fun x o h i => b.ex x o (a.ex x o h i) i⟩
theorem Le.refl (m : Mp) (H : Hp) : Le m m H H := ⟨fun _ _ h => h, fun _ _ h => h, fun _ _ _ h => h, fun _ _ h _ => h, fun _ _ h n => ⟨h, n⟩⟩
theorem Le.trans {m m1 m2 : Mp} {H H1 H2 : Hp} (a : Le m m1 H H1) (b : Le m1 m2 H1 H2) : Le m m2 H H2 :=
  ⟨fun n x h => b.pre n x (a.pre n x h), fun x vs h => b.tup x vs (a.tup x vs h), fun x o u h => b.fz x o u (a.fz x o u h), fun x o h i => b.ex x o (a.ex x o h i) i, fun x o h n => let ⟨h1, n1⟩ := a.frame x o h n; b.frame x o h1 n1⟩
section
variable {K : KW} {mg : Str → Option Value} {m m' : Mp} {H H' : Hp}
theorem sqT_lt (l : Lt m m' H H') {a : Addr} {vs : List V} (h : SqU K H a vs) : SqU K H' a vs := by
  rcases h with h | h
  · exact .inl (l.tup a vs h)
  · exact .inr h
mutual
theorem Rp.mov (l : Lt m m' H H') : ∀ {d : D} {v : V}, Rp K mg m H d v → Rp K mg m' H' d v
  | _, _, .non => .non
  | _, _, .bl b => .bl b
  | _, _, .int i => .int i
  | _, _, .str x => .str x
  | _, _, .ty t => .ty t
  | _, _, .fn h => .fn h
  | _, _, .tup h hs => .tup (sqT_lt l h) (Rps.mov l hs)
  | _, _, .loc h => .loc (l.pre _ _ h)
  | _, _, .fl h hs => .fl (l.fz _ _ _ h) (Rps.mov l hs)
  | _, _, .fd h hk hs => .fd (l.fz _ _ _ h) hk (Rps.mov l hs)
  | _, _, .fm h hk hq hs => .fm (l.fz _ _ _ h) hk (Rps.mov l hq) (Rps.mov l hs)
  | _, _, .bd h hs => .bd (l.fz _ _ _ h) (Rps.mov l hs)
  | _, _, .bm h hk hq hs => .bm (l.fz _ _ _ h) hk (Rps.mov l hq) (Rps.mov l hs)
  | _, _, .exn h1 h2 h hf hs => .exn h1 h2 (l.fz _ _ _ h) (hf.imp id fun ⟨dd, e, g, z⟩ => ⟨dd, e, l.ex _ _ g trivial, z⟩) (Rps.mov l hs)
  | _, _, .cls h1 h2 => .cls h1 h2
theorem Rps.mov (l : Lt m m' H H') : ∀ {ds : List D} {vs : List V}, Rps K mg m H ds vs → Rps K mg m' H' ds vs
  | _, _, .nil => .nil
  | _, _, .cons h hs => .cons (Rp.mov l h) (Rps.mov l hs)
end
theorem Rp.mono (l : Le m m' H H') {d : D} {v : V} (h : Rp K mg m H d v) : Rp K mg m' H' d v := h.mov l.lt
theorem Rps.mono (l : Le m m' H H') {ds : List D} {vs : List V} (h : Rps K mg m H ds vs) : Rps K mg m' H' ds vs := h.mov l.lt
theorem Rps.length : ∀ {ds : List D} {vs : List V}, Rps K mg m H ds vs → vs.length = ds.length
  | _, _, .nil => rfl
  | _, _, .cons _ hs => by rw [List.length_cons, List.length_cons, Rps.length hs]
theorem Rps.get : ∀ {ds : List D} {vs : List V} {i : Nat} {d : D}, Rps K mg m H ds vs → ds[i]? = some d → ∃ v, vs[i]? = some v ∧ Rp K mg m H d v
  | _, _, _, _, .nil, e => by simp at e
  | _, _, 0, _, .cons h _, e => by simp at e; subst e; exact ⟨_, rfl, h⟩
  | _, _, i + 1, d, .cons _ hs, e => by
    obtain ⟨v, h1, h2⟩ := Rps.get (i := i) (d := d) hs (by simpa using e)
    exact ⟨v, by simpa using h1, h2⟩
theorem Rps.append : ∀ {ds es : List D} {vs ws : List V}, Rps K mg m H ds vs → Rps K mg m H es ws → Rps K mg m H (ds ++ es) (vs ++ ws)
  | _, _, _, _, .nil, s => s
  | _, _, _, _, .cons h hs, s => .cons h (Rps.append hs s)
theorem Rps.take : ∀ {ds : List D} {vs : List V} (n : Nat), Rps K mg m H ds vs → Rps K mg m H (ds.take n) (vs.take n)
  | _, _, 0, _ => .nil
  | _, _, _ + 1, .nil => .nil
  | _, _, n + 1, .cons h hs => .cons h (Rps.take n hs)
theorem Rps.drop : ∀ {ds : List D} {vs : List V} (n : Nat), Rps K mg m H ds vs → Rps K mg m H (ds.drop n) (vs.drop n)
  | _, _, 0, h => h
  | _, _, _ + 1, .nil => .nil
  | _, _, n + 1, .cons _ hs => Rps.drop n hs
theorem Rps.set {d : D} {v : V} (r : Rp K mg m H d v) : ∀ {ds : List D} {vs : List V} (i : Nat), Rps K mg m H ds vs → Rps K mg m H (ds.set i d) (vs.set i v)
  | _, _, _, .nil => .nil
  | _, _, 0, .cons _ hs => .cons r hs
  | _, _, i + 1, .cons h hs => .cons h (Rps.set r i hs)
theorem Rps.reverse : ∀ {ds : List D} {vs : List V}, Rps K mg m H ds vs → Rps K mg m H ds.reverse vs.reverse
  | _, _, .nil => .nil
  | _, _, .cons h hs => by
    rw [List.reverse_cons, List.reverse_cons]
    exact Rps.append (Rps.reverse hs) (.cons h .nil)
theorem Rps.flatten {ds : List D} {vs : List V} (h : Rps K mg m H ds vs) : ∀ k : Nat, Rps K mg m H (List.replicate k ds).flatten (List.replicate k vs).flatten
  | 0 => .nil
  | k + 1 => by
    rw [List.replicate_succ, List.replicate_succ, List.flatten_cons, List.flatten_cons]
    exact Rps.append h (Rps.flatten h k)
theorem Rps.cut {ds : List D} {vs : List V} (h : Rps K mg m H ds vs) (lo hi : Option Int) : Rps K mg m H (CC.cut ds lo hi) (cutV vs lo hi) := by
  unfold CC.cut cutV
  rw [h.length]
  exact Rps.take _ (Rps.drop _ h)
theorem Rps.atI {ds : List D} {vs : List V} {i : Int} {d : D} (h : Rps K mg m H ds vs) (e : L2.atI ds i = some d) : ∃ v, L2.atI vs i = some v ∧ Rp K mg m H d v := by
  unfold L2.atI at e ⊢
  rw [h.length]
  cases q : ixN ds.length i with
  | none => rw [q] at e; simp at e
  | some j =>
    rw [q] at e
    obtain ⟨v, h1, h2⟩ := h.get (i := j) (d := d) (by simpa using e)
    exact ⟨v, by simpa using h1, h2⟩
theorem Rps.ints : ∀ {ds : List D} {vs : List V} {ns : List Int}, Rps K mg m H ds vs → intsOf ds = some ns → vs = ns.map V.int
  | _, _, _, .nil, e => by cases e; rfl
  | .int i :: r, _, ns, .cons (.int _) hs, e => by
    unfold intsOf at e
    cases q : intsOf r with
    | none => rw [q] at e; cases e
    | some l =>
      rw [q] at e
      cases e
      rw [Rps.ints hs q]
      rfl
  | .non :: _, _, _, .cons _ _, e => by cases e
  | .bl _ :: _, _, _, .cons _ _, e => by cases e
  | .str _ :: _, _, _, .cons _ _, e => by cases e
  | .tup _ :: _, _, _, .cons _ _, e => by cases e
  | .loc _ :: _, _, _, .cons _ _, e => by cases e
  | .ty _ :: _, _, _, .cons _ _, e => by cases e
  | .fn _ :: _, _, _, .cons _ _, e => by cases e
  | .fl _ :: _, _, _, .cons _ _, e => by cases e
  | .fd _ _ :: _, _, _, .cons _ _, e => by cases e
  | .exn _ _ :: _, _, _, .cons _ _, e => by cases e
  | .cls _ :: _, _, _, .cons _ _, e => by cases e
  | .fm _ _ :: _, _, _, .cons _ _, e => by cases e
  | .bd _ :: _, _, _, .cons _ _, e => by cases e
theorem Rps.bls : ∀ {ds : List D} {vs : List V} {ns : List Bool}, Rps K mg m H ds vs → blsOf ds = some ns → vs = ns.map V.bl
  | _, _, _, .nil, e => by cases e; rfl
  | .bl i :: r, _, ns, .cons (.bl _) hs, e => by
    unfold blsOf at e
    cases q : blsOf r with
    | none => rw [q] at e; cases e
    | some l =>
      rw [q] at e
      cases e
      rw [Rps.bls hs q]
      rfl
  | .non :: _, _, _, .cons _ _, e => by cases e
  | .int _ :: _, _, _, .cons _ _, e => by cases e
  | .str _ :: _, _, _, .cons _ _, e => by cases e
  | .tup _ :: _, _, _, .cons _ _, e => by cases e
  | .loc _ :: _, _, _, .cons _ _, e => by cases e
  | .ty _ :: _, _, _, .cons _ _, e => by cases e
  | .fn _ :: _, _, _, .cons _ _, e => by cases e
  | .fl _ :: _, _, _, .cons _ _, e => by cases e
  | .fd _ _ :: _, _, _, .cons _ _, e => by cases e
  | .exn _ _ :: _, _, _, .cons _ _, e => by cases e
  | .cls _ :: _, _, _, .cons _ _, e => by cases e
  | .fm _ _ :: _, _, _, .cons _ _, e => by cases e
  | .bd _ :: _, _, _, .cons _ _, e => by cases e
end
def SqF (K : PySem.W.Frag) (H : Hp) (a : Addr × Bool) (xs : List V) : Prop :=
  (a.2 = false ∧ ∃ o, H a.1 = some (.frz o (.lst xs))) ∨ (a.2 = true ∧ ∃ (o : Obj) (its : Array Value) (n : Nat), K.lookup a.1 = some o ∧ o.cls = .type "list" ∧ o.dict = none ∧ o.data = .seq its n ∧ its.size ≤ sizeLine ∧ Vals xs its.toList)
theorem SqF.sq {K : PySem.W.Frag} {H : Hp} {a : Addr × Bool} {xs : List V} (h : SqF K H a xs) : SqL K H a.1 xs := by
  rcases h with ⟨_, o, h⟩ | ⟨_, h⟩
  · exact .inl (.inr ⟨o, h⟩)
  · exact .inr h
def Kvs (K : KW) (mg : Str → Option Value) (m : Mp) (H : Hp) (kvs : List (Key × D)) (ks : List (Key × V)) : Prop := kvs.map (·.1) = ks.map (·.1) ∧ Rps K mg m H (kvs.map (·.2)) (ks.map (·.2))
def NKvs (K : KW) (mg : Str → Option Value) (m : Mp) (H : Hp) (kvs : List (NestedKey × D)) (xs : List (NestedKey × Addr × V)) : Prop :=
  kvs.map (·.1) = xs.map (·.1) ∧ Rps K mg m H (nDs (xs.map (·.1))) (xs.map fun x => V.ref x.2.1) ∧ Rps K mg m H (kvs.map (·.2)) (xs.map (·.2.2))
theorem NKvs.mov {K : KW} {mg : Str → Option Value} {m m' : Mp} {H H' : Hp} (l : Lt m m' H H') {kvs : List (NestedKey × D)} {xs : List (NestedKey × Addr × V)} (h : NKvs K mg m H kvs xs) : NKvs K mg m' H' kvs xs := ⟨h.1, h.2.1.mov l, h.2.2.mov l⟩
def Ins (K : KW) (mg : Str → Option Value) (m : Mp) (H : Hp) (c : Nat) (fs : List (Str × D)) (us : Addr × Addr × List (Str × V)) : Prop :=
  (∃ x, insNames[c]? = some x ∧ mg x = some (.ref us.1)) ∧ fs.map (·.1) = us.2.2.map (·.1) ∧ Rps K mg m H (fs.map (·.2)) (us.2.2.map (·.2))
theorem Ins.mov {K : KW} {mg : Str → Option Value} {m m' : Mp} {H H' : Hp} (l : Lt m m' H H') {c : Nat} {fs : List (Str × D)} {us : Addr × Addr × List (Str × V)} (h : Ins K mg m H c fs us) : Ins K mg m' H' c fs us := ⟨h.1, h.2.1, h.2.2.mov l⟩
def RO (K : KW) (mg : Str → Option Value) (m : Mp) (H : Hp) (so : SO) (a : Addr × Bool) : Prop := match so with
  | .lst ds => ∃ vs, a.2 = false ∧ H a.1 = some (.lst vs) ∧ Rps K mg m H ds vs
  | .frz ds => ∃ vs, SqF K H a vs ∧ Rps K mg m H ds vs
  | .dic kvs => ∃ ks, a.2 = false ∧ H a.1 = some (.dK ks) ∧ Kvs K mg m H kvs ks
  | .fdic kvs => ∃ ks od, a.2 = false ∧ H a.1 = some (.frz od (.dK ks)) ∧ Kvs K mg m H kvs ks
  | .dn kvs => ∃ xs, a.2 = false ∧ H a.1 = some (DnO K.w a.1 xs) ∧ NKvs K mg m H kvs xs
  | .fdn kvs => ∃ xs od, a.2 = false ∧ H a.1 = some (.frz od (DnO K.w a.1 xs)) ∧ NKvs K mg m H kvs xs
  | .ins c fs => ∃ us : Addr × Addr × List (Str × V), a.2 = false ∧ H a.1 = some (.ins us.1 us.2.1 us.2.2) ∧ Ins K mg m H c fs us
def HotH (o : Option Addr) (H : Hp) : Prop := ∀ a, o = some a → ∃ (oe : Obj) (vs : Array Value) (u : HO), H a = some (.frz oe u) ∧ oe.data = .fields vs ∧ vs[2]? = some .none
theorem HotH.mono {o : Option Addr} {H H' : Hp} (h : HotH o H) (l : ∀ (a : Addr) (o : Obj) (u : HO), H a = some (.frz o u) → H' a = some (.frz o u)) : HotH o H' := fun a e => let ⟨oe, vs, u, h1, h2⟩ := h a e; ⟨oe, vs, u, l _ _ _ h1, h2⟩
structure RelA (K : KW) (mg : Str → Option Value) (m : Mp) (H : Hp) (S : Sto) : Prop where
  len : m.length = S.length
  nd : ∀ (n k : Nat) (a : Addr), m[n]? = some (a, false) → m[k]? = some (a, false) → n = k
  at_ : ∀ (n : Nat) (a : Addr × Bool) (so : SO), m[n]? = some a → S[n]? = some so → RO K mg m H so a
  hot : HotH K.hx H
structure RelE (K : KW) (mg : Str → Option Value) (m : Mp) (H : Hp) (σ : L2.St) (ρ : Env) : Prop where
  len : σ.length = ρ.length
  at_ : ∀ (i : Nat) (d : D), ρ[i]? = some (some d) → ∃ v, σ[i]? = some (some v) ∧ Rp K mg m H d v
section
variable {K : KW} {mg : Str → Option Value} {m m' : Mp} {H H' : Hp} {S : Sto} {σ : L2.St} {ρ : Env}
theorem RelE.mono (l : Le m m' H H') (r : RelE K mg m H σ ρ) : RelE K mg m' H' σ ρ :=
  ⟨r.len, fun i d e => let ⟨v, h1, h2⟩ := r.at_ i d e; ⟨v, h1, h2.mono l⟩⟩
theorem RelE.mov (l : Lt m m' H H') (r : RelE K mg m H σ ρ) : RelE K mg m' H' σ ρ :=
  ⟨r.len, fun i d e => let ⟨v, h1, h2⟩ := r.at_ i d e; ⟨v, h1, h2.mov l⟩⟩
theorem RelE.set (r : RelE K mg m H σ ρ) {i : Nat} {d : D} {v : V} (h : Rp K mg m H d v) : RelE K mg m H (σ.set i (some v)) (ρ.set i (some d)) := by
  refine ⟨by rw [List.length_set, List.length_set, r.len], fun j e hj => ?_⟩
  by_cases hij : i = j
  · subst hij
    by_cases hl : i < ρ.length
    · rw [List.getElem?_set_self hl] at hj
      cases hj
      exact ⟨v, by rw [List.getElem?_set_self (by rw [r.len]; exact hl)], h⟩
    · rw [List.getElem?_eq_none (by simpa using hl)] at hj
      cases hj
  · rw [List.getElem?_set_ne hij] at hj
    obtain ⟨w, h1, h2⟩ := r.at_ j e hj
    exact ⟨w, by rw [List.getElem?_set_ne hij]; exact h1, h2⟩
theorem RelE.clear (r : RelE K mg m H σ ρ) (i : Nat) : RelE K mg m H (σ.set i none) (ρ.set i none) := by
  refine ⟨by rw [List.length_set, List.length_set, r.len], fun j e hj => ?_⟩
  by_cases hij : i = j
  · subst hij
    by_cases hl : i < ρ.length
    · rw [List.getElem?_set_self hl] at hj
      cases hj
    · rw [List.getElem?_eq_none (by simpa using hl)] at hj
      cases hj
  · rw [List.getElem?_set_ne hij] at hj
    obtain ⟨w, h1, h2⟩ := r.at_ j e hj
    exact ⟨w, by rw [List.getElem?_set_ne hij]; exact h1, h2⟩
theorem RelE.wipe (r : RelE K mg m H σ ρ) : ∀ vs : List Nat, RelE K mg m H (L2.wipe σ vs) (wipeE ρ vs)
  | [] => r
  | v :: vs => (RelE.wipe r vs).clear v
theorem RelA.seq (r : RelA K mg m H S) {n : Nat} {a : Addr} {b : Bool} {ds : List D} (hm : m[n]? = some (a, b)) (h : lstAt S n = some ds) : ∃ vs, SqL K H a vs ∧ Rps K mg m H ds vs := by
  unfold lstAt at h
  cases q : S[n]? with
  | none => rw [q] at h; cases h
  | some so =>
    rw [q] at h
    have z := r.at_ n (a, b) so hm q
    cases so with
    | lst xs =>
      cases h
      obtain ⟨vs, _, h1, h2⟩ := z
      exact ⟨vs, SqL.of h1, h2⟩
    | frz xs =>
      cases h
      obtain ⟨vs, h1, h2⟩ := z
      exact ⟨vs, h1.sq, h2⟩
    | _ => cases h
theorem RelA.lst (r : RelA K mg m H S) {n : Nat} {a : Addr} {b : Bool} {ds : List D} (hm : m[n]? = some (a, b)) (h : S[n]? = some (.lst ds)) : ∃ vs, H a = some (.lst vs) ∧ Rps K mg m H ds vs := by
  obtain ⟨vs, _, h1, h2⟩ := r.at_ n (a, b) _ hm h
  exact ⟨vs, h1, h2⟩
theorem RelA.seqD (r : RelA K mg m H S) {d : D} {x : V} {ds : List D} (hd : Rp K mg m H d x) (h : lstD S d = some ds) : ∃ a vs, x = .ref a ∧ SqL K H a vs ∧ Rps K mg m H ds vs := by
  cases hd with
  | loc hm =>
    obtain ⟨vs, h1, h2⟩ := r.seq hm h
    exact ⟨_, vs, rfl, h1, h2⟩
  | fl h1 h2 =>
    cases h
    exact ⟨_, _, rfl, .inl (.inr ⟨_, h1⟩), h2⟩
  | _ => cases h
theorem RelA.lstM (r : RelA K mg m H S) {d : D} {x : V} {ds : List D} (hd : Rp K mg m H d x) (h : lstM S d = some ds) : ∃ a vs, x = .ref a ∧ Rd H a (.lst vs) ∧ Rps K mg m H ds vs := by
  cases hd with
  | loc hm =>
    rename_i n a b
    have h' : (match S[n]? with
      | some (.lst ds) => some ds
      | _ => none) = some ds := h
    cases q : S[n]? with
    | none => rw [q] at h'; cases h'
    | some so =>
      rw [q] at h'
      cases so with
      | lst xs =>
        cases h'
        obtain ⟨vs, h1, h2⟩ := r.lst hm q
        exact ⟨_, vs, rfl, .inl h1, h2⟩
      | _ => cases h'
  | fl h1 h2 =>
    cases h
    exact ⟨_, _, rfl, .inr ⟨_, h1⟩, h2⟩
  | _ => cases h
theorem RelA.lstW (r : RelA K mg m H S) {d : D} {x : V} {ds : List D} (hd : Rp K mg m H d x) (h : lstW S d = some ds) : ∃ a vs, x = .ref a ∧ H a = some (.lst vs) ∧ Rps K mg m H ds vs := by
  cases hd with
  | loc hm =>
    rename_i n a b
    have h' : (match S[n]? with
      | some (.lst ds) => some ds
      | _ => none) = some ds := h
    cases q : S[n]? with
    | none => rw [q] at h'; cases h'
    | some so =>
      rw [q] at h'
      cases so with
      | lst xs =>
        cases h'
        obtain ⟨vs, h1, h2⟩ := r.lst hm q
        exact ⟨_, vs, rfl, h1, h2⟩
      | _ => cases h'
  | _ => cases h
theorem sqF_new {p : Addr} {o : HO} (hp : H p = none) {a : Addr × Bool} {xs : List V} (h : SqF K H a xs) : SqF K (upd H p o) a xs := by
  rcases h with ⟨b, z, h⟩ | h
  · exact .inl ⟨b, z, by rw [upd_ne (ne_of_none h hp)]; exact h⟩
  · exact .inr h
theorem RelA.there (r : RelA K mg m H S) {n : Nat} {a : Addr} (hm : m[n]? = some (a, false)) : H a ≠ none := by
  have hn : n < S.length := by rw [← r.len]; exact (List.getElem?_eq_some_iff.mp hm).1
  have z := r.at_ n (a, false) S[n] hm (List.getElem?_eq_getElem hn)
  cases q : S[n] with
  | lst xs =>
    rw [q] at z
    obtain ⟨ws, _, h1, _⟩ := z
    rw [h1]
    simp
  | frz xs =>
    rw [q] at z
    obtain ⟨ws, h1, _⟩ := z
    rcases h1 with ⟨_, o, h1⟩ | ⟨b, _⟩
    · rw [h1]; simp
    · cases b
  | dic _ =>
    rw [q] at z
    obtain ⟨ws, _, h1, _⟩ := z
    rw [h1]
    simp
  | fdic _ =>
    rw [q] at z
    obtain ⟨ws, od, _, h1, _⟩ := z
    rw [h1]
    simp
  | ins _ _ =>
    rw [q] at z
    obtain ⟨ws, _, h1, _⟩ := z
    rw [h1]
    simp
  | dn _ =>
    rw [q] at z
    obtain ⟨ws, _, h1, _⟩ := z
    rw [h1]
    simp
  | fdn _ =>
    rw [q] at z
    obtain ⟨ws, od, _, h1, _⟩ := z
    rw [h1]
    simp
theorem RelA.notin (r : RelA K mg m H S) {a : Addr} (h : H a = none) : (a, false) ∉ m := fun z => by
  obtain ⟨n, hn⟩ := List.mem_iff_getElem?.mp z
  exact r.there hn h
theorem Le.new {p : Addr} {o : HO} (hp : H p = none) : Le m m H (upd H p o) :=
  ⟨fun _ _ h => h, fun _ _ h => by rw [upd_ne (ne_of_none h hp)]; exact h, fun _ _ _ h => by rw [upd_ne (ne_of_none h hp)]; exact h, fun _ _ h _ => by rw [upd_ne (ne_of_none h hp)]; exact h, fun a u h n => ⟨by rw [upd_ne (ne_of_none h hp)]; exact h, n⟩⟩
theorem RO.new {p : Addr} {o : HO} (hp : H p = none) {so : SO} {a : Addr × Bool} (l : Le m m' H (upd H p o)) (h : RO K mg m H so a) : RO K mg m' (upd H p o) so a := by
  cases so with
  | lst ds =>
    obtain ⟨vs, b, h1, h2⟩ := h
    exact ⟨vs, b, by rw [upd_ne (ne_of_none h1 hp)]; exact h1, h2.mono l⟩
  | frz ds =>
    obtain ⟨vs, h1, h2⟩ := h
    exact ⟨vs, sqF_new hp h1, h2.mono l⟩
  | dic _ =>
    obtain ⟨vs, b, h1, h2, h3⟩ := h
    exact ⟨vs, b, by rw [upd_ne (ne_of_none h1 hp)]; exact h1, h2, h3.mono l⟩
  | fdic _ =>
    obtain ⟨vs, od, b, h1, h2, h3⟩ := h
    exact ⟨vs, od, b, by rw [upd_ne (ne_of_none h1 hp)]; exact h1, h2, h3.mono l⟩
  | ins _ _ =>
    obtain ⟨xs, b, h1, h2⟩ := h
    exact ⟨xs, b, by rw [upd_ne (ne_of_none h1 hp)]; exact h1, h2.mov l.lt⟩
  | dn _ =>
    obtain ⟨xs, b, h1, h2⟩ := h
    exact ⟨xs, b, by rw [upd_ne (ne_of_none h1 hp)]; exact h1, h2.mov l.lt⟩
  | fdn _ =>
    obtain ⟨xs, od, b, h1, h2⟩ := h
    exact ⟨xs, od, b, by rw [upd_ne (ne_of_none h1 hp)]; exact h1, h2.mov l.lt⟩
theorem RelA.new (r : RelA K mg m H S) {p : Addr} {o : HO} (hp : H p = none) : RelA K mg m (upd H p o) S :=
  ⟨r.len, r.nd, fun n a so hm hs => (r.at_ n a so hm hs).new hp (Le.new hp), r.hot.mono (Le.new (m := m) hp).fz⟩
theorem Le.alloc {p : Addr} {o : HO} (hp : H p = none) : Le m (m ++ [(p, false)]) H (upd H p o) :=
  ⟨fun n a h => by rw [List.getElem?_append_left (List.getElem?_eq_some_iff.mp h).1]; exact h, fun _ _ h => by rw [upd_ne (ne_of_none h hp)]; exact h, fun _ _ _ h => by rw [upd_ne (ne_of_none h hp)]; exact h, fun _ _ h _ => by rw [upd_ne (ne_of_none h hp)]; exact h,
    fun a u h n => ⟨by rw [upd_ne (ne_of_none h hp)]; exact h, fun z => by
      rcases List.mem_append.mp z with z | z
      · exact n z
      · exact ne_of_none h hp (by simpa using z)⟩⟩
theorem RelA.alloc (r : RelA K mg m H S) {p : Addr} {ds : List D} {vs : List V} (hp : H p = none) (hs : Rps K mg m H ds vs) : RelA K mg (m ++ [(p, false)]) (upd H p (.lst vs)) (S ++ [.lst ds]) := by
  have old : ∀ (n : Nat) (a : Addr × Bool), m[n]? = some a → n < S.length := fun n a h => by rw [← r.len]; exact (List.getElem?_eq_some_iff.mp h).1
  have cases_ : ∀ (n : Nat) (a : Addr × Bool), (m ++ [(p, false)])[n]? = some a → m[n]? = some a ∨ (n = m.length ∧ a = (p, false)) := fun n a h => by
    by_cases hn : n < m.length
    · rw [List.getElem?_append_left hn] at h
      exact .inl h
    · rw [List.getElem?_append_right (by omega)] at h
      have : n - m.length = 0 := by
        cases q : n - m.length with
        | zero => rfl
        | succ j => rw [q] at h; simp at h
      rw [this] at h
      exact .inr ⟨by omega, by simpa using h.symm⟩
  refine ⟨by rw [List.length_append, List.length_append, r.len]; rfl, fun n k a hn hk => ?_, fun n a so hn hso => ?_, r.hot.mono (Le.alloc (m := m) hp).fz⟩
  · rcases cases_ n _ hn with h1 | ⟨h1, e1⟩
    · rcases cases_ k _ hk with h2 | ⟨h2, e2⟩
      · exact r.nd n k a h1 h2
      · cases e2
        exact absurd hp (r.there h1)
    · rcases cases_ k _ hk with h2 | ⟨h2, _⟩
      · cases e1
        exact absurd hp (r.there h2)
      · exact h1.trans h2.symm
  · rcases cases_ n a hn with h1 | ⟨h1, e1⟩
    · rw [List.getElem?_append_left (old n a h1)] at hso
      exact (r.at_ n a so h1 hso).new hp (Le.alloc hp)
    · subst e1
      rw [h1, r.len, List.getElem?_append_right (Nat.le_refl _)] at hso
      have : so = .lst ds := by simpa using hso.symm
      subst this
      exact ⟨vs, rfl, upd_same, hs.mono (Le.alloc hp)⟩
theorem RelA.at_new (r : RelA K mg m H S) (p : Addr) : (m ++ [(p, false)])[S.length]? = some (p, false) := by
  rw [← r.len, List.getElem?_append_right (Nat.le_refl _)]
  simp
theorem Lt.scratch {p : Addr} {xs ys : List V} (h : H p = some (.lst xs)) : Lt m m H (upd H p (.lst ys)) :=
  ⟨fun _ _ z => z, fun b zs z => by rw [upd_ne (fun q => by rw [q, h] at z; cases z)]; exact z, fun b o u z => by rw [upd_ne (fun q => by rw [q, h] at z; cases z)]; exact z, fun b o z i => by rw [upd_ne (fun q => by rw [q, h] at z; cases z; exact i)]; exact z⟩
theorem RelA.scratch (r : RelA K mg m H S) {p : Addr} {xs ys : List V} (h : H p = some (.lst xs)) (hn : (p, false) ∉ m) : RelA K mg m (upd H p (.lst ys)) S :=
  ⟨r.len, r.nd, fun n a so hm hs => by
    have z := r.at_ n a so hm hs
    obtain ⟨a1, a2⟩ := a
    cases so with
    | lst ds =>
      obtain ⟨us, hb, h1, h2⟩ := z
      have hb' : a2 = false := hb
      subst hb'
      have : a1 ≠ p := fun q => hn (q ▸ List.mem_of_getElem? hm)
      exact ⟨us, rfl, by rw [upd_ne this]; exact h1, h2.mov (Lt.scratch h)⟩
    | frz ds =>
      obtain ⟨us, h1, h2⟩ := z
      refine ⟨us, ?_, h2.mov (Lt.scratch h)⟩
      rcases h1 with ⟨hb, o, h1⟩ | h1
      · have : a1 ≠ p := fun q => by
          have h1' : H a1 = some (.frz o (.lst us)) := h1
          rw [q, h] at h1'
          cases h1'
        exact .inl ⟨hb, o, by rw [upd_ne this]; exact h1⟩
      · exact .inr h1
    | ins _ _ =>
      obtain ⟨us, hb, h1, h2⟩ := z
      have hb' : a2 = false := hb
      subst hb'
      have : a1 ≠ p := fun q => hn (q ▸ List.mem_of_getElem? hm)
      exact ⟨us, rfl, by rw [upd_ne this]; exact h1, h2.mov (Lt.scratch h)⟩
    | dn _ =>
      obtain ⟨us, hb, h1, h2⟩ := z
      have hb' : a2 = false := hb
      subst hb'
      have : a1 ≠ p := fun q => hn (q ▸ List.mem_of_getElem? hm)
      exact ⟨us, rfl, by rw [upd_ne this]; exact h1, h2.mov (Lt.scratch h)⟩
    | fdn _ =>
      obtain ⟨us, od, hb, h1, h2⟩ := z
      have hb' : a2 = false := hb
      subst hb'
      have : a1 ≠ p := fun q => hn (q ▸ List.mem_of_getElem? hm)
      exact ⟨us, od, rfl, by rw [upd_ne this]; exact h1, h2.mov (Lt.scratch h)⟩
    | dic _ =>
      obtain ⟨us, hb, h1, h2, h3⟩ := z
      have hb' : a2 = false := hb
      subst hb'
      have : a1 ≠ p := fun q => hn (q ▸ List.mem_of_getElem? hm)
      exact ⟨us, rfl, by rw [upd_ne this]; exact h1, h2, h3.mov (Lt.scratch h)⟩
    | fdic _ =>
      obtain ⟨us, od, hb, h1, h2, h3⟩ := z
      have hb' : a2 = false := hb
      subst hb'
      have : a1 ≠ p := fun q => hn (q ▸ List.mem_of_getElem? hm)
      exact ⟨us, od, rfl, by rw [upd_ne this]; exact h1, h2, h3.mov (Lt.scratch h)⟩, r.hot.mono (Lt.scratch (m := m) h).fz⟩
theorem Le.scratch {m1 m3 : Mp} {H1 H4 : Hp} (l : Le m1 m3 H1 H4) {p : Addr} {o : HO} (hp : H1 p = none) : Le m1 m3 H1 (upd H4 p o) :=
  ⟨l.pre, fun a vs h => by rw [upd_ne (ne_of_none h hp)]; exact l.tup a vs h, fun a o u h => by rw [upd_ne (ne_of_none h hp)]; exact l.fz a o u h, fun a o h i => by rw [upd_ne (ne_of_none h hp)]; exact l.ex a o h i, fun a u h n => by
    obtain ⟨h1, h2⟩ := l.frame a u h n
    exact ⟨by rw [upd_ne (ne_of_none h hp)]; exact h1, h2⟩⟩
theorem RelA.adopt (r : RelA K mg m H S) {p : Addr} {ds : List D} {vs : List V} (h : H p = some (.lst vs)) (hn : (p, false) ∉ m) (hs : Rps K mg m H ds vs) : RelA K mg (m ++ [(p, false)]) H (S ++ [.lst ds]) := by
  have lt : Lt m (m ++ [(p, false)]) H H := ⟨fun n a h => by rw [List.getElem?_append_left (List.getElem?_eq_some_iff.mp h).1]; exact h, fun _ _ h => h, fun _ _ _ h => h, fun _ _ h _ => h⟩
  have old : ∀ (n : Nat) (a : Addr × Bool), m[n]? = some a → n < S.length := fun n a h => by rw [← r.len]; exact (List.getElem?_eq_some_iff.mp h).1
  have cases_ : ∀ (n : Nat) (a : Addr × Bool), (m ++ [(p, false)])[n]? = some a → m[n]? = some a ∨ (n = m.length ∧ a = (p, false)) := fun n a h => by
    by_cases hn : n < m.length
    · rw [List.getElem?_append_left hn] at h
      exact .inl h
    · rw [List.getElem?_append_right (by omega)] at h
      have : n - m.length = 0 := by
        cases q : n - m.length with
        | zero => rfl
        | succ j => rw [q] at h; simp at h
      rw [this] at h
      exact .inr ⟨by omega, by simpa using h.symm⟩
  refine ⟨by rw [List.length_append, List.length_append, r.len]; rfl, fun n k a hn' hk => ?_, fun n a so hn' hso => ?_, r.hot⟩
  · rcases cases_ n _ hn' with h1 | ⟨h1, e1⟩
    · rcases cases_ k _ hk with h2 | ⟨h2, e2⟩
      · exact r.nd n k a h1 h2
      · cases e2
        exact absurd (List.mem_of_getElem? h1) hn
    · rcases cases_ k _ hk with h2 | ⟨h2, _⟩
      · cases e1
        exact absurd (List.mem_of_getElem? h2) hn
      · exact h1.trans h2.symm
  · rcases cases_ n a hn' with h1 | ⟨h1, e1⟩
    · rw [List.getElem?_append_left (old n a h1)] at hso
      have z := r.at_ n a so h1 hso
      cases so with
      | lst xs => obtain ⟨us, b, g1, g2⟩ := z; exact ⟨us, b, g1, g2.mov lt⟩
      | frz xs => obtain ⟨us, g1, g2⟩ := z; exact ⟨us, g1, g2.mov lt⟩
      | ins _ _ => obtain ⟨us, b, g1, g2⟩ := z; exact ⟨us, b, g1, g2.mov lt⟩
      | dn _ => obtain ⟨us, b, g1, g2⟩ := z; exact ⟨us, b, g1, g2.mov lt⟩
      | fdn _ => obtain ⟨us, od, b, g1, g2⟩ := z; exact ⟨us, od, b, g1, g2.mov lt⟩
      | dic _ => obtain ⟨us, b, g1, g2, g3⟩ := z; exact ⟨us, b, g1, g2, g3.mov lt⟩
      | fdic _ => obtain ⟨us, od, b, g1, g2, g3⟩ := z; exact ⟨us, od, b, g1, g2, g3.mov lt⟩
    · subst e1
      rw [h1, r.len, List.getElem?_append_right (Nat.le_refl _)] at hso
      have : so = .lst ds := by simpa using hso.symm
      subst this
      exact ⟨vs, rfl, h, hs.mov lt⟩
theorem Le.write (r : RelA K mg m H S) {n : Nat} {a : Addr} {b : Bool} {ds : List D} {vs ws : List V} (hm : m[n]? = some (a, b)) (hS : S[n]? = some (.lst ds)) (h : H a = some (.lst vs)) : Le m m H (upd H a (.lst ws)) := by
  have ne : ∀ {b : Addr} {o : HO}, H b = some o → o ≠ .lst vs → b ≠ a := fun {b o} e d z => by
    subst z
    rw [h] at e
    exact d (Option.some.inj e).symm
  obtain ⟨_, hb, _⟩ := r.at_ n (a, b) _ hm hS
  have hb' : b = false := hb
  subst hb'
  refine ⟨fun _ _ z => z, fun b xs z => ?_, fun b o u z => ?_, fun b o z i => ?_, fun b o z nb => ⟨?_, nb⟩⟩
  · rw [upd_ne (ne z (fun q => nomatch q))]
    exact z
  · rw [upd_ne (ne z (fun q => nomatch q))]
    exact z
  · rw [upd_ne (ne z (fun q => by rw [q] at i; exact i))]
    exact z
  · have : b ≠ a := fun q => nb (q ▸ List.mem_of_getElem? hm)
    rw [upd_ne this]
    exact z
theorem RelA.write (r : RelA K mg m H S) {n : Nat} {a : Addr} {b : Bool} {ds es : List D} {vs ws : List V} (hm : m[n]? = some (a, b)) (hS : S[n]? = some (.lst ds)) (h : H a = some (.lst vs)) (hs : Rps K mg m H es ws) :
    RelA K mg m (upd H a (.lst ws)) (S.set n (.lst es)) := by
  have hn : n < S.length := (List.getElem?_eq_some_iff.mp hS).1
  have l : Le m m H (upd H a (.lst ws)) := Le.write r hm hS h
  obtain ⟨_, hb, _⟩ := r.at_ n (a, b) _ hm hS
  have hb' : b = false := hb
  subst hb'
  refine ⟨by rw [List.length_set, r.len], r.nd, fun k b so hk hso => ?_, r.hot.mono l.fz⟩
  by_cases e : n = k
  · subst e
    rw [List.getElem?_set_self hn] at hso
    cases hso
    rw [hm] at hk
    cases hk
    exact ⟨ws, rfl, upd_same, hs.mono l⟩
  · rw [List.getElem?_set_ne e] at hso
    have z := r.at_ k b so hk hso
    cases so with
    | lst xs =>
      obtain ⟨us, hb, h1, h2⟩ := z
      obtain ⟨b1, b2⟩ := b
      have hb' : b2 = false := hb
      subst hb'
      have : b1 ≠ a := fun q => by
        subst q
        exact e (r.nd n k b1 hm hk)
      exact ⟨us, rfl, by rw [upd_ne this]; exact h1, h2.mono l⟩
    | frz xs =>
      obtain ⟨us, h1, h2⟩ := z
      refine ⟨us, ?_, h2.mono l⟩
      rcases h1 with ⟨hb, o, h1⟩ | h1
      · have : b.1 ≠ a := fun q => by
          rw [q, h] at h1
          cases h1
        exact .inl ⟨hb, o, by rw [upd_ne this]; exact h1⟩
      · exact .inr h1
    | ins _ _ =>
      obtain ⟨us, hb, h1, h2⟩ := z
      obtain ⟨b1, b2⟩ := b
      have hb' : b2 = false := hb
      subst hb'
      have : b1 ≠ a := fun q => by
        subst q
        exact e (r.nd n k b1 hm hk)
      exact ⟨us, rfl, by rw [upd_ne this]; exact h1, h2.mov l.lt⟩
    | dn _ =>
      obtain ⟨us, hb, h1, h2⟩ := z
      obtain ⟨b1, b2⟩ := b
      have hb' : b2 = false := hb
      subst hb'
      have : b1 ≠ a := fun q => by
        subst q
        exact e (r.nd n k b1 hm hk)
      exact ⟨us, rfl, by rw [upd_ne this]; exact h1, h2.mov l.lt⟩
    | fdn _ =>
      obtain ⟨us, od, hb, h1, h2⟩ := z
      obtain ⟨b1, b2⟩ := b
      have hb' : b2 = false := hb
      subst hb'
      have : b1 ≠ a := fun q => by
        subst q
        exact e (r.nd n k b1 hm hk)
      exact ⟨us, od, rfl, by rw [upd_ne this]; exact h1, h2.mov l.lt⟩
    | dic _ =>
      obtain ⟨us, hb, h1, h2, h3⟩ := z
      obtain ⟨b1, b2⟩ := b
      have hb' : b2 = false := hb
      subst hb'
      have : b1 ≠ a := fun q => by
        subst q
        exact e (r.nd n k b1 hm hk)
      exact ⟨us, rfl, by rw [upd_ne this]; exact h1, h2, h3.mono l⟩
    | fdic xs =>
      obtain ⟨us, od, hb, h1, h2, h3⟩ := z
      obtain ⟨b1, b2⟩ := b
      have hb' : b2 = false := hb
      subst hb'
      have : b1 ≠ a := fun q => by
        subst q
        exact e (r.nd n k b1 hm hk)
      exact ⟨us, od, rfl, by rw [upd_ne this]; exact h1, h2, h3.mono l⟩
def OwnO : HO → Prop
  | .lst _ => True
  | .dK _ => True
  | .ext _ => True
  | .ins _ _ _ => True
  | _ => False
theorem Le.writeO {n : Nat} {a : Addr} {o o' : HO} (hm : m[n]? = some (a, false)) (h : H a = some o) (ho : OwnO o) : Le m m H (upd H a o') := by
  refine ⟨fun _ _ z => z, fun b xs z => ?_, fun b o u z => ?_, fun b u z i => by
    have : b ≠ a := fun q => by
      subst q
      rw [h] at z
      cases z
      cases o <;> first | exact i.elim | exact ho.elim
    rw [upd_ne this]
    exact z, fun b u z nb => ⟨?_, nb⟩⟩
  · have : b ≠ a := fun q => by
      subst q
      rw [h] at z
      cases z
      exact ho
    rw [upd_ne this]
    exact z
  · have : b ≠ a := fun q => by
      subst q
      rw [h] at z
      cases z
      exact ho
    rw [upd_ne this]
    exact z
  · have : b ≠ a := fun q => nb (q ▸ List.mem_of_getElem? hm)
    rw [upd_ne this]
    exact z
theorem RelA.writeO (r : RelA K mg m H S) {n : Nat} {a : Addr} {o o' : HO} {so : SO} (hm : m[n]? = some (a, false)) (h : H a = some o) (ho : OwnO o) (new : RO K mg m (upd H a o') so (a, false)) : RelA K mg m (upd H a o') (S.set n so) := by
  have hn : n < S.length := by rw [← r.len]; exact (List.getElem?_eq_some_iff.mp hm).1
  have l : Le m m H (upd H a o') := Le.writeO hm h ho
  refine ⟨by rw [List.length_set, r.len], r.nd, fun k b so' hk hso => ?_, r.hot.mono l.fz⟩
  by_cases e : n = k
  · subst e
    rw [List.getElem?_set_self hn] at hso
    cases hso
    rw [hm] at hk
    cases hk
    exact new
  · rw [List.getElem?_set_ne e] at hso
    have z := r.at_ k b so' hk hso
    cases so' with
    | lst xs =>
      obtain ⟨us, hb, h1, h2⟩ := z
      obtain ⟨b1, b2⟩ := b
      have hb' : b2 = false := hb
      subst hb'
      have : b1 ≠ a := fun q => by
        subst q
        exact e (r.nd n k b1 hm hk)
      exact ⟨us, rfl, by rw [upd_ne this]; exact h1, h2.mono l⟩
    | ins _ _ =>
      obtain ⟨us, hb, h1, h2⟩ := z
      obtain ⟨b1, b2⟩ := b
      have hb' : b2 = false := hb
      subst hb'
      have : b1 ≠ a := fun q => by
        subst q
        exact e (r.nd n k b1 hm hk)
      exact ⟨us, rfl, by rw [upd_ne this]; exact h1, h2.mov l.lt⟩
    | dn _ =>
      obtain ⟨us, hb, h1, h2⟩ := z
      obtain ⟨b1, b2⟩ := b
      have hb' : b2 = false := hb
      subst hb'
      have : b1 ≠ a := fun q => by
        subst q
        exact e (r.nd n k b1 hm hk)
      exact ⟨us, rfl, by rw [upd_ne this]; exact h1, h2.mov l.lt⟩
    | fdn _ =>
      obtain ⟨us, od, hb, h1, h2⟩ := z
      obtain ⟨b1, b2⟩ := b
      have hb' : b2 = false := hb
      subst hb'
      have : b1 ≠ a := fun q => by
        subst q
        exact e (r.nd n k b1 hm hk)
      exact ⟨us, od, rfl, by rw [upd_ne this]; exact h1, h2.mov l.lt⟩
    | dic xs =>
      obtain ⟨us, hb, h1, h2, h3⟩ := z
      obtain ⟨b1, b2⟩ := b
      have hb' : b2 = false := hb
      subst hb'
      have : b1 ≠ a := fun q => by
        subst q
        exact e (r.nd n k b1 hm hk)
      exact ⟨us, rfl, by rw [upd_ne this]; exact h1, h2, h3.mono l⟩
    | frz xs =>
      obtain ⟨us, h1, h2⟩ := z
      refine ⟨us, ?_, h2.mono l⟩
      rcases h1 with ⟨hb, o1, h1⟩ | h1
      · have : b.1 ≠ a := fun q => by
          rw [q, h] at h1
          cases h1
          exact ho
        exact .inl ⟨hb, o1, by rw [upd_ne this]; exact h1⟩
      · exact .inr h1
    | fdic xs =>
      obtain ⟨us, od, hb, h1, h2, h3⟩ := z
      obtain ⟨b1, b2⟩ := b
      have hb' : b2 = false := hb
      subst hb'
      have : b1 ≠ a := fun q => by
        subst q
        exact e (r.nd n k b1 hm hk)
      exact ⟨us, od, rfl, by rw [upd_ne this]; exact h1, h2, h3.mono l⟩
end
def RpX (K : KW) (mg : Str → Option Value) (m : Mp) (H : Hp) (c : Nat) (p : List D) (cls : Value) (dd : Option Addr) : Prop := ∃ x a vs, exNames[c]? = some x ∧ mg x = some (.ref a) ∧ cls = .ref a ∧ XFld H c dd vs ∧ Rps K mg m H p vs
def Post {α β : Type} (K : KW) (mg : Str → Option Value) (W : XK) (rel : Mp → Hp → α → β → Prop) (m : Mp) (H : Hp) (r : R α) (Q : β → Hp → Prop) : Prop := match r with
  | .ok d S => ∀ m' H' v, Le m m' H H' → RelA K mg m' H' S → rel m' H' d v → Q v H'
  | .exc c p S => ∀ m' H' cls dd, Le m m' H H' → RelA K mg m' H' S → RpX K mg m' H' c p cls dd → W cls dd H'
  | .bad => False
section
variable {K : KW} {mg : Str → Option Value} {W : XK} {m m1 : Mp} {H H1 : Hp}
theorem Post.move {α β : Type} {rel : Mp → Hp → α → β → Prop} {r : R α} {Q : β → Hp → Prop} (l : Le m m1 H H1) (h : Post K mg W rel m H r Q) : Post K mg W rel m1 H1 r Q := by
  cases r with
  | ok d S => exact fun m' H' v l' ra rp => h m' H' v (l.trans l') ra rp
  | exc c p S => exact fun m' H' cls dd l' ra rx => h m' H' cls dd (l.trans l') ra rx
  | bad => exact h
theorem Post.bind {α β γ δ : Type} {rel : Mp → Hp → α → β → Prop} {rel1 : Mp → Hp → γ → δ → Prop} {r : R γ} {f : γ → Sto → R α} {Q : β → Hp → Prop} (h : Post K mg W rel m H (r.bind f) Q) :
    Post K mg W rel1 m H r (fun v H1 => ∃ m1 d S1, Le m m1 H H1 ∧ RelA K mg m1 H1 S1 ∧ rel1 m1 H1 d v ∧ Post K mg W rel m1 H1 (f d S1) Q) := by
  cases r with
  | ok d S => exact fun m' H' v l' ra rp => ⟨m', d, S, l', ra, rp, Post.move l' h⟩
  | exc c p S => exact h
  | bad => exact h
theorem Post.imp {α β : Type} {rel : Mp → Hp → α → β → Prop} {r : R α} {Q Q' : β → Hp → Prop} (h : Post K mg W rel m H r Q) (i : ∀ v H', Q v H' → Q' v H') : Post K mg W rel m H r Q' := by
  cases r with
  | ok d S => exact fun m' H' v l ra rp => i _ _ (h m' H' v l ra rp)
  | exc c p S => exact h
  | bad => exact h
theorem Post.now {α β : Type} {rel : Mp → Hp → α → β → Prop} {d : α} {S : Sto} {Q : β → Hp → Prop} (h : Post K mg W rel m H (.ok d S) Q) (ra : RelA K mg m H S) {v : β} (rp : rel m H d v) : Q v H := h m H v (Le.refl m H) ra rp
end
mutual
theorem nD_lt {k : Nat} : ∀ x : NestedKey, (nD x).lt k = true
  | .none => by simp [nD]
  | .num _ => by simp [nD]
  | .text _ => by simp [nD]
  | .tup ks => by rw [nD, lt_tup]; exact List.all_eq_true.mpr (nDs_lt ks)
theorem nDs_lt {k : Nat} : ∀ xs : List NestedKey, ∀ d ∈ nDs xs, d.lt k = true
  | [], d, h => by cases h
  | x :: xs, d, h => by
    rw [nDs] at h
    rcases List.mem_cons.mp h with rfl | h
    · exact nD_lt x
    · exact nDs_lt xs d h
end
section
variable {K : KW} {mg : Str → Option Value} {m m' : Mp} {H H' : Hp} {S S' : Sto}
mutual
theorem Rp.take (k : Nat) : ∀ {d : D} {v : V}, Rp K mg m H d v → d.lt k = true → Rp K mg (m.take k) H d v
  | _, _, .non, _ => .non
  | _, _, .bl b, _ => .bl b
  | _, _, .int i, _ => .int i
  | _, _, .str x, _ => .str x
  | _, _, .ty t, _ => .ty t
  | _, _, .fn h, _ => .fn h
  | _, _, .tup h hs, q => .tup h (Rps.take2 k hs (by simpa using q))
  | _, _, .loc h, q => .loc (by rw [lt_loc] at q; rw [List.getElem?_take_of_lt (of_decide_eq_true q)]; exact h)
  | _, _, .fl h hs, q => .fl h (Rps.take2 k hs (by simpa using q))
  | _, _, .fd h hk hs, q => .fd h hk (Rps.take2 k hs (by simpa using q))
  | _, _, .fm h hk hq hs, q => .fm h hk (Rps.take2 k hq (nDs_lt _)) (Rps.take2 k hs (by simpa using q))
  | _, _, .bd h hs, q => .bd h (Rps.take2 k hs (by simpa using q))
  | _, _, .bm h hk hq hs, q => by
    rw [lt_bd] at q
    simp only [ltL, List.all_cons, Bool.and_eq_true, lt_tup] at q
    exact .bm h hk (Rps.take2 k hq fun d hd => List.all_eq_true.mp q.1 d hd) (Rps.take2 k hs fun d hd => List.all_eq_true.mp q.2.1 d hd)
  | _, _, .exn h1 h2 h hf hs, q => .exn h1 h2 h hf (Rps.take2 k hs (by simpa using q))
  | _, _, .cls h1 h2, _ => .cls h1 h2
theorem Rps.take2 (k : Nat) : ∀ {ds : List D} {vs : List V}, Rps K mg m H ds vs → (∀ d ∈ ds, d.lt k = true) → Rps K mg (m.take k) H ds vs
  | _, _, .nil, _ => .nil
  | _, _, .cons h hs, q => .cons (Rp.take k h (q _ List.mem_cons_self)) (Rps.take2 k hs fun d hd => q d (List.mem_cons_of_mem _ hd))
end
mutual
theorem Rp.bel : ∀ {d : D} {v : V}, Rp K mg m H d v → d.lt m.length = true
  | _, _, .non => lt_non
  | _, _, .bl b => lt_bl
  | _, _, .int i => lt_int
  | _, _, .str x => lt_str
  | _, _, .ty t => lt_ty
  | _, _, .fn h => lt_fn
  | _, _, .tup h hs => by rw [lt_tup]; exact Rps.bel hs
  | _, _, .loc h => by rw [lt_loc]; exact decide_eq_true (List.getElem?_eq_some_iff.mp h).1
  | _, _, .fl h hs => by rw [lt_fl]; exact Rps.bel hs
  | _, _, .fd h hk hs => by rw [lt_fd]; exact Rps.bel hs
  | _, _, .fm h hk hq hs => by rw [lt_fm]; exact Rps.bel hs
  | _, _, .bd h hs => by rw [lt_bd]; exact Rps.bel hs
  | _, _, .bm h hk hq hs => by
    have h1 := Rps.bel hq
    have h2 := Rps.bel hs
    rw [lt_bd]
    simp only [ltL, List.all_cons, Bool.and_eq_true, lt_tup]
    exact ⟨h1, h2, lt_non, rfl⟩
  | _, _, .exn h1 h2 h hf hs => by rw [lt_exn]; exact Rps.bel hs
  | _, _, .cls h1 h2 => lt_cls
theorem Rps.bel : ∀ {ds : List D} {vs : List V}, Rps K mg m H ds vs → ltL m.length ds = true
  | _, _, .nil => rfl
  | _, _, .cons h hs => by
    show (_ :: _).all _ = true
    rw [List.all_cons, Rp.bel h]
    exact Rps.bel hs
end
theorem Rps.takeL {k : Nat} {ds : List D} {vs : List V} (h : Rps K mg m H ds vs) (q : ltL k ds = true) : Rps K mg (m.take k) H ds vs := Rps.take2 k h (List.all_eq_true.mp q)
theorem RpX.take {k c : Nat} {p : List D} {cls : Value} {dd : Option Addr} (h : RpX K mg m H c p cls dd) (q : ltL k p = true) : RpX K mg (m.take k) H c p cls dd := by
  obtain ⟨x, a, vs, h1, h2, h3, h4, h5⟩ := h
  exact ⟨x, a, vs, h1, h2, h3, h4, h5.takeL q⟩
theorem RO.bel {so : SO} {a : Addr × Bool} (h : RO K mg m H so a) : so.lt m.length = true := by
  cases so with
  | lst ds => obtain ⟨vs, _, _, h⟩ := h; exact h.bel
  | frz ds => obtain ⟨vs, _, h⟩ := h; exact h.bel
  | dic kvs => obtain ⟨vs, _, _, h⟩ := h; exact h.2.bel
  | fdic kvs => obtain ⟨vs, _, _, _, h⟩ := h; exact h.2.bel
  | ins _ _ => obtain ⟨vs, _, _, h⟩ := h; exact h.2.2.bel
  | dn kvs => obtain ⟨vs, _, _, h⟩ := h; exact h.2.2.bel
  | fdn kvs => obtain ⟨vs, _, _, _, h⟩ := h; exact h.2.2.bel
theorem RO.take {so : SO} {a : Addr × Bool} {k : Nat} (h : RO K mg m H so a) (q : so.lt k = true) : RO K mg (m.take k) H so a := by
  cases so with
  | lst ds => obtain ⟨vs, b, c, h⟩ := h; exact ⟨vs, b, c, h.takeL q⟩
  | frz ds => obtain ⟨vs, b, h⟩ := h; exact ⟨vs, b, h.takeL q⟩
  | dic kvs => obtain ⟨vs, b, c, h⟩ := h; exact ⟨vs, b, c, h.1, h.2.takeL q⟩
  | fdic kvs => obtain ⟨vs, o, b, c, h⟩ := h; exact ⟨vs, o, b, c, h.1, h.2.takeL q⟩
  | ins _ _ => obtain ⟨vs, b, c, h⟩ := h; exact ⟨vs, b, c, h.1, h.2.1, h.2.2.takeL q⟩
  | dn kvs => obtain ⟨vs, b, c, h⟩ := h; exact ⟨vs, b, c, h.1, Rps.take2 k h.2.1 (nDs_lt _), h.2.2.takeL q⟩
  | fdn kvs => obtain ⟨vs, o, b, c, h⟩ := h; exact ⟨vs, o, b, c, h.1, Rps.take2 k h.2.1 (nDs_lt _), h.2.2.takeL q⟩
theorem take_of {α : Type} {l : List α} {k n : Nat} {a : α} (h : (l.take k)[n]? = some a) : n < k ∧ l[n]? = some a := by
  have hn : n < (l.take k).length := (List.getElem?_eq_some_iff.mp h).1
  rw [List.length_take] at hn
  have : n < k := by omega
  rw [List.getElem?_take_of_lt this] at h
  exact ⟨this, h⟩
theorem Le.cut (l : Le m m' H H') : Le m (m'.take m.length) H H' :=
  ⟨fun n a h => by rw [List.getElem?_take_of_lt (List.getElem?_eq_some_iff.mp h).1]; exact l.pre n a h, l.tup, l.fz, l.ex, fun a o h n => ⟨(l.frame a o h n).1, fun z => (l.frame a o h n).2 (List.mem_of_mem_take z)⟩⟩
theorem RelA.cut (r : RelA K mg m H S) (l : Le m m' H H') (r' : RelA K mg m' H' S') (k : keepS S S') : RelA K mg (m'.take m.length) H' (S'.take S.length) := by
  refine ⟨by rw [List.length_take, List.length_take, r'.len, r.len], fun n k a h1 h2 => r'.nd n k a (take_of h1).2 (take_of h2).2, fun n a so h1 h2 => ?_, r'.hot⟩
  obtain ⟨hn, h1⟩ := take_of h1
  obtain ⟨hn2, h2⟩ := take_of h2
  refine (r'.at_ n a so h1 h2).take ?_
  rw [r.len]
  rcases k n so hn2 h2 with e | e
  · have h3 : m[n]? = some a := by
      cases q : m[n]? with
      | none => exact absurd (List.getElem?_eq_none_iff.mp q) (by omega)
      | some b =>
        rw [l.pre n b q] at h1
        exact h1
    have := (r.at_ n a so h3 e).bel
    rw [r.len] at this
    exact this
  · exact e
theorem Post.trim {W : XK} {r : R D} {Q : VK} (ra : RelA K mg m H S) (h : Post K mg W (Rp K mg) m H (trim S r) Q) : Post K mg W (Rp K mg) m H r Q := by
  cases r with
  | bad => exact h
  | ok d S' =>
    intro m' H' v l ra' rp
    have h' : Post K mg W (Rp K mg) m H (.ok d (cutS S (d.lt S.length) S')) Q := h
    unfold cutS at h'
    by_cases c : d.lt S.length = true ∧ keepS S S'
    · rw [if_pos c] at h'
      exact h' (m'.take m.length) H' v l.cut (ra.cut l ra' c.2) (rp.take _ (by rw [ra.len]; exact c.1))
    · rw [if_neg c] at h'
      exact h' m' H' v l ra' rp
  | exc cc p S' =>
    intro m' H' cls dd l ra' rp
    have h' : Post K mg W (Rp K mg) m H (.exc cc p (cutS S (ltL S.length p) S')) Q := h
    unfold cutS at h'
    by_cases c : ltL S.length p = true ∧ keepS S S'
    · rw [if_pos c] at h'
      exact h' (m'.take m.length) H' cls dd l.cut (ra.cut l ra' c.2) (rp.take (by rw [ra.len]; exact c.1))
    · rw [if_neg c] at h'
      exact h' m' H' cls dd l ra' rp
end
section
variable {f : PySem.W.Frag} {w : World} {x y : Option Addr} {mg : Str → Option Value} {m : Mp} {H : Hp}
mutual
theorem Rp.kw : ∀ {d : D} {v : V}, Rp ⟨f, w, x⟩ mg m H d v → Rp ⟨f, w, y⟩ mg m H d v
  | _, _, .non => .non
  | _, _, .bl b => .bl b
  | _, _, .int i => .int i
  | _, _, .str x => .str x
  | _, _, .ty t => .ty t
  | _, _, .fn h => .fn h
  | _, _, .tup h hs => .tup h (Rps.kw hs)
  | _, _, .loc h => .loc h
  | _, _, .fl h hs => .fl h (Rps.kw hs)
  | _, _, .fd h hk hs => .fd h hk (Rps.kw hs)
  | _, _, .fm h hk hq hs => .fm h hk (Rps.kw hq) (Rps.kw hs)
  | _, _, .bd h hs => .bd h (Rps.kw hs)
  | _, _, .bm h hk hq hs => .bm h hk (Rps.kw hq) (Rps.kw hs)
  | _, _, .exn h1 h2 h hf hs => .exn h1 h2 h hf (Rps.kw hs)
  | _, _, .cls h1 h2 => .cls h1 h2
theorem Rps.kw : ∀ {ds : List D} {vs : List V}, Rps ⟨f, w, x⟩ mg m H ds vs → Rps ⟨f, w, y⟩ mg m H ds vs
  | _, _, .nil => .nil
  | _, _, .cons h hs => .cons (Rp.kw h) (Rps.kw hs)
end
theorem RO.kw {so : SO} {a : Addr × Bool} (h : RO ⟨f, w, x⟩ mg m H so a) : RO ⟨f, w, y⟩ mg m H so a := by
  cases so with
  | lst ds => obtain ⟨vs, b, c, h⟩ := h; exact ⟨vs, b, c, h.kw⟩
  | frz ds => obtain ⟨vs, b, h⟩ := h; exact ⟨vs, b, h.kw⟩
  | dic kvs => obtain ⟨vs, b, c, h⟩ := h; exact ⟨vs, b, c, h.1, h.2.kw⟩
  | fdic kvs => obtain ⟨vs, o, b, c, h⟩ := h; exact ⟨vs, o, b, c, h.1, h.2.kw⟩
  | ins _ _ => obtain ⟨vs, b, c, h⟩ := h; exact ⟨vs, b, c, h.1, h.2.1, h.2.2.kw⟩
  | dn kvs => obtain ⟨vs, b, c, h⟩ := h; exact ⟨vs, b, c, h.1, h.2.1.kw, h.2.2.kw⟩
  | fdn kvs => obtain ⟨vs, o, b, c, h⟩ := h; exact ⟨vs, o, b, c, h.1, h.2.1.kw, h.2.2.kw⟩
theorem RelA.kw {S : Sto} (h : RelA ⟨f, w, x⟩ mg m H S) (hy : HotH y H) : RelA ⟨f, w, y⟩ mg m H S := ⟨h.len, h.nd, fun n a so h1 h2 => (h.at_ n a so h1 h2).kw, hy⟩
theorem RelE.kw {σ : L2.St} {ρ : Env} (h : RelE ⟨f, w, x⟩ mg m H σ ρ) : RelE ⟨f, w, y⟩ mg m H σ ρ := ⟨h.len, fun i d e => let ⟨v, h1, h2⟩ := h.at_ i d e; ⟨v, h1, h2.kw⟩⟩
theorem RpX.kw {c : Nat} {p : List D} {cls : Value} {dd : Option Addr} (h : RpX ⟨f, w, x⟩ mg m H c p cls dd) : RpX ⟨f, w, y⟩ mg m H c p cls dd := by
  obtain ⟨x, a, vs, h1, h2, h3, h4, h5⟩ := h
  exact ⟨x, a, vs, h1, h2, h3, h4, h5.kw⟩
end
end CC
namespace CC
open PySem PySem.Spec PyProof.Rows L2
def bnames : List Str := ["len", "abs", "sum", "min", "max", "all", "any", "sorted", "repr", "int", "str", "list", "tuple", "set", "isinstance", "range", "zip", "enumerate", "bool", "dict", "ValueError"]
def WarmA (A : Around) : Prop := A.handled = none ∨ ∃ a : Addr, A.handled = some (.ref a)
structure Ctx (cb : Bool) (X : Cx) : Prop where
  calm : cb = true → X.calm = true
  hu : X.A.units + 100 < cLine
  nd : X.N.Nodup
  g : X.A.guards = some []
  nob : ∀ x ∈ bnames, X.mg x = none
  wm : WarmA X.A
section
variable {X : Cx}
theorem PE_imp {e : Expr} {t t' : TE} (h : PE X e t) (i : ∀ σ H Q, t' σ H Q → t σ H Q) : PE X e t' := ⟨fun pins s σ H Q I q => h.run pins s σ H Q I (i σ H Q q)⟩
theorem PT_imp {e : Expr} {t t' : TT} (h : PT X e t) (i : ∀ σ H Q, t' σ H Q → t σ H Q) : PT X e t' := ⟨fun pins s σ H Q I q => h.run pins s σ H Q I (i σ H Q q)⟩
theorem PW_imp {e : Expr} {t t' : TT} (h : PW X e t) (i : ∀ σ H Q, t' σ H Q → t σ H Q) : PW X e t' := ⟨fun wh pins s σ H Q I q => h.run wh pins s σ H Q I (i σ H Q q)⟩
theorem PA_imp {e : List Expr} {t t' : TA} (h : PA X e t) (i : ∀ σ H Q, t' σ H Q → t σ H Q) : PA X e t' := ⟨fun pos pins s σ H Q I q => h.run pos pins s σ H Q I (i σ H Q q)⟩
theorem PK_imp {e : List Keyword} {t t' : TA} (h : PK X e t) (i : ∀ σ H Q, t' σ H Q → t σ H Q) : PK X e t' := ⟨fun pos pins s σ H Q I q => h.run pos pins s σ H Q I (i σ H Q q)⟩
theorem PO_imp {e : Option Expr} {t t' : TO} (h : PO X e t) (i : ∀ σ H Q, t' σ H Q → t σ H Q) : PO X e t' := ⟨fun pins s σ H Q I q => h.run pins s σ H Q I (i σ H Q q)⟩
theorem PI_imp {tg e : Expr} {t t' : TI} (h : PI X tg e t) (i : ∀ σ H Q, t' σ H Q → t σ H Q) : PI X tg e t' := ⟨fun pins s σ H Q I q => h.run pins s σ H Q I (i σ H Q q)⟩
theorem PS_imp {e : Stmt} {t t' : TS} (h : PS X e t) (i : ∀ D σ H, t' D σ H → t D σ H) : PS X e t' := ⟨fun pins s σ H D I q => h.run pins s σ H D I (i D σ H q)⟩
theorem PSs_imp {e : List Stmt} {t t' : TS} (h : PSs X e t) (i : ∀ D σ H, t' D σ H → t D σ H) : PSs X e t' := ⟨fun pins s σ H D I q => h.run pins s σ H D I (i D σ H q)⟩
theorem PE_never {e : Expr} {t : TE} (h : ∀ σ H Q, ¬ t σ H Q) : PE X e t := ⟨fun _ _ σ H Q _ q => (h σ H Q q).elim⟩
end
section
variable {K : KW} {mg : Str → Option Value} {m : Mp} {H : Hp} {S : Sto}
theorem toPs_dp (f : D → Option PyData) (hf : ∀ d v p, Rp K mg m H d v → f d = some p → Dp K H v p) : ∀ {ds : List D} {vs : List V} {ps : List PyData}, Rps K mg m H ds vs → ds.mapM f = some ps → DpAll K H vs ps
  | _, _, ps, .nil, e => by
    rw [List.mapM_nil] at e
    cases e
    exact .nil
  | d :: ds, v :: vs, ps, .cons h hs, e => by
    rw [List.mapM_cons] at e
    cases q : f d with
    | none => rw [q] at e; cases e
    | some p =>
      rw [q] at e
      cases q2 : ds.mapM f with
      | none => rw [q2] at e; cases e
      | some r =>
        rw [q2] at e
        cases e
        exact .cons (hf d v p h q) (toPs_dp f hf hs q2)
theorem toP_dp (ra : RelA K mg m H S) : ∀ (n : Nat) (d : D) (v : V) (p : PyData), Rp K mg m H d v → toP S n d = some p → Dp K H v p
  | n, _, _, p, .non, e => by cases n <;> (cases e; exact .non)
  | n, _, _, p, .bl b, e => by cases n <;> (cases e; exact .bl b)
  | n, _, _, p, .int i, e => by cases n <;> (cases e; exact .int i)
  | n, _, _, p, .str x, e => by cases n <;> (cases e; exact .str x)
  | n, _, _, p, .ty t, e => by cases n <;> cases e
  | n, _, _, p, .fn h, e => by cases n <;> cases e
  | 0, _, _, p, .tup h hs, e => by cases e
  | 0, _, _, p, .loc h, e => by cases e
  | 0, _, _, p, .fl h hs, e => by cases e
  | n, _, _, p, .fd h hk hs, e => by cases n <;> cases e
  | n, _, _, p, .fm h hk hq hs, e => by cases n <;> cases e
  | n, _, _, p, .bd h hs, e => by cases n <;> cases e
  | n, _, _, p, .bm h hk hq hs, e => by cases n <;> cases e
  | n, _, _, p, .exn h1 h2 h hf hs, e => by cases n <;> cases e
  | n, _, _, p, .cls h1 h2, e => by cases n <;> cases e
  | n + 1, _, _, p, .tup (ds := ds) h hs, e => by
    unfold toP at e
    cases q : ds.mapM (toP S n) with
    | none => rw [q] at e; cases e
    | some ps =>
      rw [q] at e
      cases e
      exact .tup h.t (toPs_dp (toP S n) (fun d v p r z => toP_dp ra n d v p r z) hs q)
  | n + 1, _, _, p, .fl (ds := ds) h hs, e => by
    unfold toP at e
    cases q : ds.mapM (toP S n) with
    | none => rw [q] at e; cases e
    | some ps =>
      rw [q] at e
      cases e
      exact .lst (.inl (.inr ⟨_, h⟩)) (toPs_dp (toP S n) (fun d v p r z => toP_dp ra n d v p r z) hs q)
  | n + 1, _, _, p, .loc (n := k) h, e => by
    unfold toP at e
    cases q0 : lstAt S k with
    | none => rw [q0] at e; cases e
    | some ds =>
      rw [q0] at e
      obtain ⟨vs, h1, h2⟩ := ra.seq h q0
      cases q : ds.mapM (toP S n) with
      | none =>
        have e' : (ds.mapM (toP S n)).map PyData.list = some p := e
        rw [q] at e'; cases e'
      | some ps =>
        have e' : (ds.mapM (toP S n)).map PyData.list = some p := e
        rw [q] at e'
        cases e'
        exact .lst h1 (toPs_dp (toP S n) (fun d v p r z => toP_dp ra n d v p r z) h2 q)
theorem eqD_ok (ra : RelA K mg m H S) {d e : D} {x y : V} {b : Bool} (rx : Rp K mg m H d x) (ry : Rp K mg m H e y) (h : eqD d e S = some b) :
    ∃ p q, Dp K H x p ∧ Dp K H y q ∧ SeqAt.shaped p = true ∧ SeqAt.shaped q = true ∧ b = PyData.eqv p q := by
  unfold eqD at h
  cases h1 : toP S 50 d with
  | none => rw [h1] at h; cases h
  | some p =>
    rw [h1] at h
    cases h2 : toP S 50 e with
    | none => rw [h2] at h; cases h
    | some q =>
      rw [h2] at h
      have h' : (if SeqAt.shaped p && SeqAt.shaped q then some (PyData.eqv p q) else none) = some b := h
      by_cases c : (SeqAt.shaped p && SeqAt.shaped q) = true
      · rw [if_pos c] at h'
        cases h'
        obtain ⟨c1, c2⟩ := Bool.and_eq_true_iff.mp c
        exact ⟨p, q, toP_dp ra 50 d x p rx h1, toP_dp ra 50 e y q ry h2, c1, c2, rfl⟩
      · rw [if_neg c] at h'
        cases h'
theorem flat_v {d : D} {x : V} (r : Rp K mg m H d x) (h : flatD d = true) : flatV x = true := by
  cases r <;> first | rfl | cases h
theorem flats_v : ∀ {ds : List D} {vs : List V}, Rps K mg m H ds vs → ds.all flatD = true → vs.all flatV = true
  | _, _, .nil, _ => rfl
  | d :: ds, v :: vs, .cons h hs, e => by
    rw [List.all_cons, Bool.and_eq_true_iff] at e
    rw [List.all_cons, flat_v h e.1, flats_v hs e.2]
    rfl
theorem feq_v {d e : D} {x y : V} (r : Rp K mg m H d x) (q : Rp K mg m H e y) (h1 : flatD d = true) (h2 : flatD e = true) : eqV x y = feq d e := by
  cases r <;> first | (cases h1; done) | (cases q <;> first | (cases h2; done) | rfl)
theorem anyf_v {d : D} {x : V} (r : Rp K mg m H d x) (h1 : flatD d = true) : ∀ {ds : List D} {vs : List V}, Rps K mg m H ds vs → ds.all flatD = true → inV x vs = ds.any fun y => feq y d
  | _, _, .nil, _ => rfl
  | e :: ds, v :: vs, .cons h hs, q => by
    rw [List.all_cons, Bool.and_eq_true_iff] at q
    have ih := anyf_v r h1 hs q.2
    unfold inV at ih ⊢
    rw [List.any_cons, List.any_cons, ih, feq_v h r q.1 h1]
theorem isNon_v {d : D} {x : V} (r : Rp K mg m H d x) : decide (x = .non) = isNon d := by
  cases r <;> rfl
theorem tru_v (ra : RelA K mg m H S) {d : D} {x : V} {b : Bool} (r : Rp K mg m H d x) (h : truth d S = some b) : TruV K x H b := by
  cases r with
  | non => cases h; rfl
  | bl b => cases h; rfl
  | int i => cases h; rfl
  | str x => cases h
  | ty t => cases h
  | fn q => cases h
  | fd q hk hs => cases h
  | fm q hk hq hs => cases h
  | bd q hs => cases h
  | bm q hk hq hs => cases h
  | exn h1 h2 q hf hs => cases h
  | cls h1 h2 => cases h
  | fl q hs =>
    cases h
    refine .inl ⟨_, .inl (.inr ⟨_, q⟩), ?_⟩
    cases hs <;> rfl
  | tup q hs =>
    cases h
    refine .inr (.inl ⟨_, q.t, ?_⟩)
    cases hs <;> rfl
  | loc q =>
    rename_i n a _
    have : ∃ ds, lstAt S n = some ds ∧ b = !ds.isEmpty := by
      unfold truth at h
      unfold lstAt
      cases z : S[n]? with
      | none => simp only [z] at h; cases h
      | some so =>
        simp only [z] at h ⊢
        cases so with
        | lst ds => cases h; exact ⟨ds, rfl, rfl⟩
        | frz ds => cases h; exact ⟨ds, rfl, rfl⟩
        | _ => cases h
    obtain ⟨ds, h1, h2⟩ := this
    obtain ⟨vs, h3, h4⟩ := ra.seq q h1
    refine .inl ⟨vs, h3, ?_⟩
    rw [h2]
    cases h4 <;> rfl
end
section
variable {X : Cx}
def rB (K : KW) (mg : Str → Option Value) (f : D → D → Sto → R D) : R2 := fun x y H Q => ∃ W m S d e, RelA K mg m H S ∧ Rp K mg m H d x ∧ Rp K mg m H e y ∧ Post K mg W (Rp K mg) m H (f d e S) Q
def rC (K : KW) (mg : Str → Option Value) (f : D → D → Sto → Option Bool) : R2 := fun x y H Q => ∃ m S d e b, RelA K mg m H S ∧ Rp K mg m H d x ∧ Rp K mg m H e y ∧ f d e S = some b ∧ Q (.bl b) H
theorem post_mk {K : KW} {mg : Str → Option Value} {W : XK} {m : Mp} {H : Hp} {S : Sto} {ds : List D} {vs : List V} {Q : VK} (ra : RelA K mg m H S) (hs : Rps K mg m H ds vs) (h : Post K mg W (Rp K mg) m H (mk (.lst ds) S) Q) :
    ∀ p, H p = none → Q (.ref p) (upd H p (.lst vs)) := fun p hp => h (m ++ [(p, false)]) (upd H p (.lst vs)) (.ref p) (Le.alloc hp) (ra.alloc hp hs) (.loc (ra.at_new p))
theorem post_tup {K : KW} {mg : Str → Option Value} {W : XK} {m : Mp} {H : Hp} {S : Sto} {ds : List D} {vs : List V} {Q : VK} (ra : RelA K mg m H S) (hs : Rps K mg m H ds vs) (h : Post K mg W (Rp K mg) m H (.ok (.tup ds) S) Q) :
    ∀ p, H p = none → Q (.ref p) (upd H p (.tup vs)) := fun p hp => h m (upd H p (.tup vs)) (.ref p) (Le.new hp) (ra.new hp) (.tup (.inl upd_same) (hs.mono (Le.new hp)))
def rJn : R2 := fun x y H Q => ∃ l b xs zs, x = .ref l ∧ y = .ref b ∧ Rd H l (.lst xs) ∧ Rd H b (.lst zs) ∧ xs.length + zs.length ≤ sizeLine ∧ ∀ p, H p = none → Q (.ref p) (upd H p (.lst (xs ++ zs)))
theorem rd_items {pins : List (Addr × Obj)} {σ : L2.St} {H : Hp} {s : Shared} {l : Addr} {xs : List V} (I : Inv X pins σ H s) (g : Rd H l (.lst xs)) : xs.length ≤ sizeLine ∧ ∃ (ui : List Value) (nn : Nat), Vals xs ui ∧ xs.length = ui.length ∧ s.heap.get? l = some { cls := .type "list", data := .seq ui.toArray nn } := by
  obtain ⟨z, ui, nn, r, e⟩ := g.ok I.hok
  exact ⟨z, ui, nn, r, r.length, e⟩
theorem op_jn : OpR X (binaryOp .Add) rJn := by
  intro pins s σ H x y v u Q I rx ry ⟨l, b, xs, zs, ex, ey, g1, g2, cz, q⟩
  subst ex ey
  cases rx
  cases ry
  obtain ⟨c1, ui, nn, r1, l1, e1⟩ := rd_items I g1
  obtain ⟨c2, uj, nm, r2, l2, e2⟩ := rd_items I g2
  refine PySem.P.add_list e1 e2 ?_ (by simp only [List.size_toArray]; omega)
  rw [show ui.toArray ++ uj.toArray = (ui ++ uj).toArray by simp]
  exact ⟨.ref _, _, I.lnew (t' := s.toks) (r1.append r2) (by simp only [List.length_append]; omega), rfl, q _ I.fresh⟩
theorem binD_add {d e : D} {S : Sto} : (∃ i j, d = .int i ∧ e = .int j) ∨ (∃ i j, d = .str i ∧ e = .str j) ∨ (∃ i j, d = .tup i ∧ e = .tup j) ∨ binD .Add d e S = catD (lstM S d) (lstM S e) S := by
  cases d <;> cases e <;> first | exact .inr (.inr (.inr rfl)) | exact .inl ⟨_, _, rfl, rfl⟩ | exact .inr (.inl ⟨_, _, rfl, rfl⟩) | exact .inr (.inr (.inl ⟨_, _, rfl, rfl⟩))
theorem op_add_any : OpR X (binaryOp .Add) (rB X.kw X.mg (binD .Add)) := by
  intro pins s σ H x y v u Q I rx ry ⟨W, m, S, d, e, ra, rd, re, p⟩
  rcases binD_add (d := d) (e := e) (S := S) with ⟨i, j, rfl, rfl⟩ | ⟨i, j, rfl, rfl⟩ | ⟨i, j, rfl, rfl⟩ | hb
  · cases rd
    cases re
    exact op_add pins s σ H _ _ v u Q I rx ry ⟨i, j, rfl, rfl, p.now ra (.int _)⟩
  · cases rd
    cases re
    have p' : Post X.kw X.mg W (Rp X.kw X.mg) m H (if i.length + j.length ≤ sizeLine then .ok (.str (i ++ j)) S else .bad) Q := p
    by_cases c : i.length + j.length ≤ sizeLine
    · rw [if_pos c] at p'
      exact op_add_str pins s σ H _ _ v u Q I rx ry ⟨i, j, rfl, rfl, c, p'.now ra (.str _)⟩
    · rw [if_neg c] at p'
      exact p'.elim
  · cases rd with
    | tup h hs =>
      cases re with
      | tup h' hs' =>
        have p' : Post X.kw X.mg W (Rp X.kw X.mg) m H (if i.length + j.length ≤ sizeLine then .ok (.tup (i ++ j)) S else .bad) Q := p
        by_cases c : i.length + j.length ≤ sizeLine
        · rw [if_pos c] at p'
          refine op_catA pins s σ H _ _ v u Q I rx ry ⟨_, _, _, _, rfl, rfl, h.t, h'.t, by rw [hs.length, hs'.length]; exact c, fun z => ?_, fun z z' => ?_, fun _ _ => post_tup ra (hs.append hs') p'⟩
          · subst z
            cases hs
            exact p'.now ra (.tup h' hs')
          · subst z'
            cases hs'
            exact p'.now ra (by rw [List.append_nil]; exact .tup h hs)
        · rw [if_neg c] at p'
          exact p'.elim
  · rw [hb] at p
    cases h1 : lstM S d with
    | none => rw [h1] at p; exact p.elim
    | some a =>
      cases h2 : lstM S e with
      | none => rw [h1, h2] at p; exact p.elim
      | some b =>
        rw [h1, h2] at p
        have p' : Post X.kw X.mg W (Rp X.kw X.mg) m H (if a.length + b.length ≤ sizeLine then mk (.lst (a ++ b)) S else .bad) Q := p
        by_cases c : a.length + b.length ≤ sizeLine
        · rw [if_pos c] at p'
          obtain ⟨l1, vs, rfl, g1, r1⟩ := ra.lstM rd h1
          obtain ⟨l2, ws, rfl, g2, r2⟩ := ra.lstM re h2
          exact op_jn pins s σ H _ _ v u Q I rx ry ⟨l1, l2, vs, ws, rfl, rfl, g1, g2, by rw [r1.length, r2.length]; exact c, post_mk ra (r1.append r2) p'⟩
        · rw [if_neg c] at p'
          exact p'.elim
theorem op_sub_any : OpR X (binaryOp .Sub) (rB X.kw X.mg (binD .Sub)) := by
  intro pins s σ H x y v u Q I rx ry ⟨W, m, S, d, e, ra, rd, re, p⟩
  cases rd with
  | int i =>
    cases re with
    | int j => exact op_sub pins s σ H _ _ v u Q I rx ry ⟨i, j, rfl, rfl, p.now ra (.int _)⟩
    | _ => exact p.elim
  | _ => cases re <;> exact p.elim
theorem binD_mul {d e : D} {S : Sto} : (∃ i j, d = .int i ∧ e = .int j) ∨ (∃ k, e = .int k ∧ binD .Mult d e S = repL (lstW S d) k S) ∨ binD .Mult d e S = .bad := by
  cases e <;> first | (right; right; cases d <;> rfl; done) | (cases d <;> first | exact .inl ⟨_, _, rfl, rfl⟩ | exact .inr (.inl ⟨_, rfl, rfl⟩))
theorem op_mul_any : OpR X (binaryOp .Mult) (rB X.kw X.mg (binD .Mult)) := by
  intro pins s σ H x y v u Q I rx ry ⟨W, m, S, d, e, ra, rd, re, p⟩
  rcases binD_mul (d := d) (e := e) (S := S) with ⟨i, j, rfl, rfl⟩ | ⟨k, rfl, hb⟩ | hb
  · cases rd
    cases re
    have p' : Post X.kw X.mg W (Rp X.kw X.mg) m H (if mulOk i j then .ok (.int (i * j)) S else .bad) Q := p
    by_cases c : mulOk i j = true
    · rw [if_pos c] at p'
      exact op_mulW pins s σ H _ _ v u Q I rx ry ⟨i, j, rfl, rfl, (of_decide_eq_true c : i.natAbs.log2 + j.natAbs.log2 < 1000000), p'.now ra (.int _)⟩
    · rw [if_neg c] at p'
      exact p'.elim
  · rw [hb] at p
    cases re
    cases h1 : lstW S d with
    | none => rw [h1] at p; exact p.elim
    | some ds =>
      rw [h1] at p
      obtain ⟨a, vs, rfl, g1, g2⟩ := ra.lstW rd h1
      have p'' : Post X.kw X.mg W (Rp X.kw X.mg) m H (if decide (-(2 ^ 63) ≤ k) && decide (k < 2 ^ 63) && decide (ds.length * k.toNat ≤ sizeLine) then mk (.lst (List.replicate k.toNat ds).flatten) S else .bad) Q := p
      by_cases c : (decide (-(2 ^ 63) ≤ k) && decide (k < 2 ^ 63) && decide (ds.length * k.toNat ≤ sizeLine)) = true
      · rw [if_pos c] at p''
        rw [Bool.and_eq_true_iff, Bool.and_eq_true_iff] at c
        obtain ⟨⟨c1, c2⟩, c3⟩ := c
        exact op_rep pins s σ H _ _ v u Q I rx ry ⟨a, k, vs, rfl, rfl, g1, of_decide_eq_true c1, of_decide_eq_true c2, by rw [g2.length]; exact of_decide_eq_true c3, post_mk ra (g2.flatten _) p''⟩
      · rw [if_neg c] at p''
        exact p''.elim
  · rw [hb] at p
    exact p.elim
theorem op_fdiv_any : OpR X (binaryOp .FloorDiv) (rB X.kw X.mg (binD .FloorDiv)) := by
  intro pins s σ H x y v u Q I rx ry ⟨W, m, S, d, e, ra, rd, re, p⟩
  cases rd with
  | int i =>
    cases re with
    | int j =>
      have p' : Post X.kw X.mg W (Rp X.kw X.mg) m H (if divOk j then .ok (.int (i / j)) S else .bad) Q := p
      by_cases c : divOk j = true
      · rw [if_pos c] at p'
        obtain ⟨c1, c2⟩ := Bool.and_eq_true_iff.mp c
        exact op_fdivW pins s σ H _ _ v u Q I rx ry ⟨i, j, rfl, rfl, ⟨of_decide_eq_true c1, of_decide_eq_true c2⟩, p'.now ra (.int _)⟩
      · rw [if_neg c] at p'
        exact p'.elim
    | _ => exact p.elim
  | _ => cases re <;> exact p.elim
theorem op_mod_any : OpR X (binaryOp .Mod) (rB X.kw X.mg (binD .Mod)) := by
  intro pins s σ H x y v u Q I rx ry ⟨W, m, S, d, e, ra, rd, re, p⟩
  cases rd with
  | int i =>
    cases re with
    | int j =>
      have p' : Post X.kw X.mg W (Rp X.kw X.mg) m H (if decide (0 < j) then .ok (.int (i % j)) S else .bad) Q := p
      by_cases c : decide (0 < j) = true
      · rw [if_pos c] at p'
        exact op_mod pins s σ H _ _ v u Q I rx ry ⟨i, j, rfl, rfl, of_decide_eq_true c, p'.now ra (.int _)⟩
      · rw [if_neg c] at p'
        exact p'.elim
    | _ => exact p.elim
  | _ => cases re <;> exact p.elim
theorem bits_le {i : Int} (h : i.natAbs.log2 < 1000) : Builtin.Int.intBits i ≤ 1000 := by
  unfold Builtin.Int.intBits
  split <;> omega
theorem pow_big {i j : Int} (h0 : 0 ≤ j) (h1 : j ≤ 1000) (h : i.natAbs.log2 < 1000) : ¬ Builtin.Int.intTooBig (((Builtin.Int.intBits i : Nat) : Int) * j) = true := by
  have hb := bits_le h
  unfold Builtin.Int.intTooBig
  intro z
  have z' := of_decide_eq_true z
  have b1 : ((Builtin.Int.intBits i : Nat) : Int) * j ≤ 1000 * 1000 := Int.mul_le_mul (by omega) h1 h0 (by omega)
  have b2 : (1000000 : Int) < ((bitsLine : Nat) : Int) := by decide +kernel
  omega
theorem pow_neg1n (n : Nat) : (-1 : Int) ^ n = if n % 2 = 0 then 1 else -1 := by
  have h2 : ((-1 : Int)) ^ (2 : Nat) = 1 := by decide
  by_cases z : n % 2 = 0
  · rw [if_pos z]
    have : n = 2 * (n / 2) := by omega
    rw [this, Int.pow_mul, h2, Int.one_pow]
  · rw [if_neg z]
    have : n = 2 * (n / 2) + 1 := by omega
    rw [this, Int.pow_succ, Int.pow_mul, h2, Int.one_pow]
    rfl
theorem pow_neg1 {j : Int} (h : 0 ≤ j) : (-1 : Int) ^ j.toNat = if (j % 2 == 0) = true then 1 else -1 := by
  rw [pow_neg1n]
  by_cases z : j % 2 = 0
  · rw [if_pos (by omega), if_pos (by rw [z]; rfl)]
  · rw [if_neg (by omega), if_neg (fun q => z (eq_of_beq q))]
theorem op_pow_any : OpR X (binaryOp .Pow) (rB X.kw X.mg (binD .Pow)) := by
  intro pins s σ H x y v u Q I rx ry ⟨W, m, S, d, e, ra, rd, re, p⟩
  cases rd with
  | int i =>
    cases re with
    | int j =>
      have p' : Post X.kw X.mg W (Rp X.kw X.mg) m H (if powOk i j then .ok (.int (i ^ j.toNat)) S else .bad) Q := p
      by_cases c : powOk i j = true
      · rw [if_pos c] at p'
        obtain ⟨c', c3⟩ := Bool.and_eq_true_iff.mp c
        obtain ⟨c1, c2⟩ := Bool.and_eq_true_iff.mp c'
        have h0 : 0 ≤ j := of_decide_eq_true c1
        have h1 : j ≤ 1000 := of_decide_eq_true c2
        have h2 : i.natAbs.log2 < 1000 := of_decide_eq_true c3
        obtain ⟨t, rfl⟩ := rx
        obtain ⟨t', rfl⟩ := ry
        have q := p'.now ra (.int _)
        by_cases e0 : j = 0
        · subst e0
          have q1 : Q (.int 1) H := by
            have e9 : i ^ (0 : Int).toNat = 1 := Int.pow_zero i
            rw [e9] at q
            exact q
          exact AutoIntOps.pow_0 (by decide) (by decide) ⟨.int 1, H, I.tok _, ⟨_, rfl⟩, q1⟩
        · have e0' : ¬ (j == 0) = true := fun z => e0 (eq_of_beq z)
          by_cases e1 : (i == 0 || i == 1) = true
          · refine AutoIntOps.pow_1 h0 e0' e1 ⟨.int i, H, I.tok _, ⟨_, rfl⟩, ?_⟩
            have : i ^ j.toNat = i := by
              rcases Bool.or_eq_true_iff.mp e1 with z | z
              · rw [eq_of_beq z]
                exact Int.zero_pow (by omega)
              · rw [eq_of_beq z]
                exact Int.one_pow
            rw [this] at q
            exact q
          · by_cases e2 : (i == -1) = true
            · refine AutoIntOps.pow_2 h0 e0' e1 e2 ⟨.int _, H, I.tok _, ⟨_, rfl⟩, ?_⟩
              have : i ^ j.toNat = if (j % 2 == 0) = true then 1 else -1 := by
                rw [eq_of_beq e2]
                exact pow_neg1 h0
              rw [this] at q
              exact q
            · exact AutoIntOps.pow_4 h0 e0' e1 e2 (pow_big h0 h1 h2) ⟨.int _, H, I.tok _, ⟨_, rfl⟩, q⟩
      · rw [if_neg c] at p'
        exact p'.elim
    | _ => exact p.elim
  | _ => cases re <;> exact p.elim
theorem op_bin : ∀ op : Operator, OpR X (binaryOp op) (rB X.kw X.mg (binD op))
  | .Add => op_add_any
  | .Sub => op_sub_any
  | .Mult => op_mul_any
  | .FloorDiv => op_fdiv_any
  | .Mod => op_mod_any
  | .Pow => op_pow_any
  | .MatMult | .Div | .LShift | .RShift | .BitOr | .BitXor | .BitAnd => fun _ _ _ _ _ _ _ _ _ _ _ _ ⟨_, _, _, _, _, _, _, _, p⟩ => p.elim
theorem cmp_some {b : Bool} {o : Option Bool} (h : o.map (!·) = some b) : ∃ c, o = some c ∧ b = !c := by
  cases o with
  | none => cases h
  | some c => cases h; exact ⟨c, rfl, rfl⟩
section
variable {K : KW} {mg : Str → Option Value} {m : Mp} {H : Hp} {S : Sto}
theorem dic_w (ra : RelA K mg m H S) {n : Nat} {a : Addr} {b : Bool} {kvs : List (Key × D)} (t : m[n]? = some (a, b)) (q : S[n]? = some (.dic kvs)) : b = false ∧ ∃ ks, H a = some (.dK ks) ∧ Kvs K mg m H kvs ks := by
  obtain ⟨ks, hb, h1, h2⟩ := ra.at_ n (a, b) _ t q
  exact ⟨hb, ks, h1, h2⟩
theorem dic_ro (ra : RelA K mg m H S) {n : Nat} {a : Addr} {b : Bool} {kvs : List (Key × D)} (t : m[n]? = some (a, b)) (h : dicAt S n = some kvs) : ∃ ks, Rd H a (.dK ks) ∧ Kvs K mg m H kvs ks := by
  unfold dicAt at h
  cases q : S[n]? with
  | none => rw [q] at h; cases h
  | some so =>
    rw [q] at h
    cases so with
    | dic _ =>
      cases h
      obtain ⟨ks, hb, h1, h2⟩ := ra.at_ n (a, b) _ t q
      exact ⟨ks, .inl h1, h2⟩
    | fdic _ =>
      cases h
      obtain ⟨ks, od, hb, h1, h2⟩ := ra.at_ n (a, b) _ t q
      exact ⟨ks, .inr ⟨od, h1⟩, h2⟩
    | _ => cases h
theorem DGet.kr {H : Hp} {a : Addr} {kvs : List (Key × V)} {k : Key} (e : Rd H a (.dK kvs)) : DGet H a (kV k) (valV kvs k) := .inl ⟨kvs, k, e, rfl, rfl⟩
theorem kvs_val : ∀ {kvs : List (Key × D)} {ks : List (Key × V)}, Kvs K mg m H kvs ks → ∀ k, (∀ d, valA kvs k = some d → ∃ v, valV ks k = some v ∧ Rp K mg m H d v) ∧ (valA kvs k = none → valV ks k = none)
  | [], [], _, k => ⟨(fun d e => by cases e), fun _ => rfl⟩
  | [], _ :: _, ⟨e, _⟩, _ => by cases e
  | _ :: _, [], ⟨e, _⟩, _ => by cases e
  | p :: kvs, q :: ks, ⟨e, r⟩, k => by
    have e' : p.1 :: kvs.map (·.1) = q.1 :: ks.map (·.1) := e
    obtain ⟨e1, e2⟩ := List.cons.inj e'
    have r' : Rps K mg m H (p.2 :: kvs.map (·.2)) (q.2 :: ks.map (·.2)) := r
    cases r' with
    | cons r1 r2 =>
      obtain ⟨h1, h2⟩ := kvs_val (kvs := kvs) (ks := ks) ⟨e2, r2⟩ k
      by_cases c : p.1 = k
      · have c' : q.1 = k := e1.symm.trans c
        have v1 : valA (p :: kvs) k = some p.2 := by
          unfold valA
          rw [List.find?_cons_of_pos (by simpa using c)]
          rfl
        exact ⟨(fun d ed => by rw [v1] at ed; cases ed; exact ⟨q.2, valV_pos c', r1⟩), (fun z => by rw [v1] at z; cases z)⟩
      · have c' : ¬ q.1 = k := fun z => c (e1.trans z)
        have v1 : valA (p :: kvs) k = valA kvs k := by
          unfold valA
          rw [List.find?_cons_of_neg (by simpa using c)]
        rw [v1, valV_neg c']
        exact ⟨h1, h2⟩
theorem kvs_any : ∀ {kvs : List (Key × D)} {ks : List (Key × V)}, kvs.map (·.1) = ks.map (·.1) → ∀ k : Key, (kvs.any fun kv => decide (kv.1 = k)) = ks.any fun kv => decide (kv.1 = k)
  | [], [], _, _ => rfl
  | [], _ :: _, e, _ => by cases e
  | _ :: _, [], e, _ => by cases e
  | p :: kvs, q :: ks, e, k => by
    have e' : p.1 :: kvs.map (·.1) = q.1 :: ks.map (·.1) := e
    obtain ⟨e1, e2⟩ := List.cons.inj e'
    rw [List.any_cons, List.any_cons, kvs_any e2 k, e1]
theorem kvs_repl {k : Key} {d : D} {v : V} (hv : Rp K mg m H d v) : ∀ {kvs : List (Key × D)} {ks : List (Key × V)}, Kvs K mg m H kvs ks → Kvs K mg m H (kvs.map fun kv => if kv.1 = k then (kv.1, d) else kv) (ks.map fun kv => if kv.1 = k then (kv.1, v) else kv)
  | [], [], _ => ⟨rfl, .nil⟩
  | [], _ :: _, ⟨e, _⟩ => by cases e
  | _ :: _, [], ⟨e, _⟩ => by cases e
  | p :: kvs, q :: ks, ⟨e, r⟩ => by
    have e' : p.1 :: kvs.map (·.1) = q.1 :: ks.map (·.1) := e
    obtain ⟨e1, e2⟩ := List.cons.inj e'
    have r' : Rps K mg m H (p.2 :: kvs.map (·.2)) (q.2 :: ks.map (·.2)) := r
    cases r' with
    | cons r1 r2 =>
      obtain ⟨h1, h2⟩ := kvs_repl hv (kvs := kvs) (ks := ks) ⟨e2, r2⟩
      by_cases c : p.1 = k
      · have c' : q.1 = k := e1.symm.trans c
        simp only [List.map_cons, if_pos c, if_pos c']
        refine ⟨?_, .cons hv h2⟩
        show p.1 :: _ = q.1 :: _
        rw [h1, e1]
      · have c' : ¬ q.1 = k := fun z => c (e1.trans z)
        simp only [List.map_cons, if_neg c, if_neg c']
        refine ⟨?_, .cons r1 h2⟩
        show p.1 :: _ = q.1 :: _
        rw [h1, e1]
theorem kvs_put {kvs : List (Key × D)} {ks : List (Key × V)} {k : Key} {d : D} {v : V} (h : Kvs K mg m H kvs ks) (hv : Rp K mg m H d v) : Kvs K mg m H (putA kvs k d) (putK ks k v) := by
  unfold putA putK
  rw [kvs_any h.1 k]
  by_cases c : (ks.any fun kv => decide (kv.1 = k)) = true
  · rw [if_pos c, if_pos c]
    exact kvs_repl hv h
  · rw [if_neg c, if_neg c]
    exact ⟨by simp only [List.map_append, h.1, List.map_cons, List.map_nil], by simp only [List.map_append, List.map_cons, List.map_nil]; exact h.2.append (.cons hv .nil)⟩
theorem kvs_mono {m' : Mp} {H' : Hp} {kvs : List (Key × D)} {ks : List (Key × V)} (h : Kvs K mg m H kvs ks) (l : Le m m' H H') : Kvs K mg m' H' kvs ks := ⟨h.1, h.2.mono l⟩
theorem kvs_len {kvs : List (Key × D)} {ks : List (Key × V)} (h : Kvs K mg m H kvs ks) : kvs.length = ks.length := by
  have := congrArg List.length h.1
  simpa using this
theorem kD_v {d : D} {k : Key} {x : V} (h : kD d = some k) (r : Rp K mg m H d x) : x = kV k := by
  cases r <;> first | (cases h; done) | (cases h; rfl)
end
theorem kvs_zip {K : KW} {mg : Str → Option Value} {m : Mp} {H : Hp} {kvs : List (Key × V)} {ks : List Key} {ds : List D} (hk : ks = kvs.map (·.1)) (hs : Rps K mg m H ds (kvs.map (·.2))) : Kvs K mg m H (ks.zip ds) kvs := by
  have hl : ks.length = ds.length := by
    have h1 := hs.length
    rw [hk]
    simpa using h1
  have e1 : (ks.zip ds).map (·.1) = ks := by
    have := List.map_fst_zip (l₁ := ks) (l₂ := ds) (by omega)
    exact this
  have e2 : (ks.zip ds).map (·.2) = ds := by
    have := List.map_snd_zip (l₁ := ks) (l₂ := ds) (by omega)
    exact this
  exact ⟨by rw [e1]; exact hk, by rw [e2]; exact hs⟩
mutual
theorem nD_kN : ∀ {d : D} {k : NestedKey}, kN d = some k → nD k = d
  | .non, _, h => by cases h; rw [nD]
  | .int _, _, h => by cases h; rw [nD]
  | .str _, _, h => by cases h; rw [nD]
  | .tup ds, k, h => by
    have h' : (kNs ds).map NestedKey.tup = some k := h
    cases q : kNs ds with
    | none => rw [q] at h'; cases h'
    | some ks =>
      rw [q] at h'
      cases h'
      rw [nD, nDs_kNs q]
  | .bl _, _, h => by cases h
  | .loc _, _, h => by cases h
  | .ty _, _, h => by cases h
  | .fn _, _, h => by cases h
  | .fl _, _, h => by cases h
  | .fd _ _, _, h => by cases h
  | .exn _ _, _, h => by cases h
  | .cls _, _, h => by cases h
  | .fm _ _, _, h => by cases h
  | .bd _, _, h => by cases h
theorem nDs_kNs : ∀ {ds : List D} {ks : List NestedKey}, kNs ds = some ks → nDs ks = ds
  | [], _, h => by cases h; rw [nDs]
  | d :: ds, ks, h => by
    have h' : ((kN d).bind fun k => (kNs ds).map (k :: ·)) = some ks := h
    cases q1 : kN d with
    | none => rw [q1] at h'; cases h'
    | some k =>
      cases q2 : kNs ds with
      | none => rw [q1, q2] at h'; cases h'
      | some r =>
        rw [q1, q2] at h'
        cases h'
        rw [nDs, nD_kN q1, nDs_kNs q2]
end
mutual
theorem kN_nD : ∀ k : NestedKey, kN (nD k) = some k
  | .none => by rw [nD]; rfl
  | .num _ => by rw [nD]; rfl
  | .text _ => by rw [nD]; rfl
  | .tup ks => by
    rw [nD]
    show (kNs (nDs ks)).map NestedKey.tup = _
    rw [kNs_nDs ks]
    rfl
theorem kNs_nDs : ∀ ks : List NestedKey, kNs (nDs ks) = some ks
  | [] => by rw [nDs]; rfl
  | k :: ks => by
    rw [nDs]
    show ((kN (nD k)).bind fun k => (kNs (nDs ks)).map (k :: ·)) = _
    rw [kN_nD k, kNs_nDs ks]
    rfl
end
section
variable {X : Cx} {pins : List (Addr × Obj)} {σ : L2.St} {H : Hp} {s : Shared} {m : Mp}
mutual
theorem kN_is (I : Inv X pins σ H s) : ∀ {d : D} {v : V} {u : Value} {k : NestedKey}, Rp X.kw X.mg m H d v → RelV v u → kN d = some k → NestedIs s.heap k u
  | _, _, u, _, .non, r, h => by cases h; obtain rfl : u = Value.none := r; exact .none
  | _, _, u, _, .int i, r, h => by cases h; obtain ⟨t, rfl⟩ : ∃ t, u = Value.int i t := r; exact .int _ _
  | _, _, u, _, .str x, r, h => by cases h; obtain ⟨t, rfl⟩ : ∃ t, u = Value.str x t := r; exact .text _ _
  | _, _, u, k, @Rp.tup _ _ _ _ a vs ds g hs, r, h => by
    have h' : (kNs ds).map NestedKey.tup = some k := h
    cases q : kNs ds with
    | none => rw [q] at h'; cases h'
    | some ks =>
      rw [q] at h'
      cases h'
      obtain rfl : u = Value.ref a := r
      obtain ⟨its, rv, ⟨o, ho, hc, n, hd⟩, _⟩ := I.tuple g.t
      exact .tup ho hc hd (kNs_is I hs rv q)
  | _, _, _, _, .bl _, _, h => by cases h
  | _, _, _, _, .ty _, _, h => by cases h
  | _, _, _, _, .fn _, _, h => by cases h
  | _, _, _, _, .loc _, _, h => by cases h
  | _, _, _, _, .fl _ _, _, h => by cases h
  | _, _, _, _, .fd _ _ _, _, h => by cases h
  | _, _, _, _, .exn _ _ _ _ _, _, h => by cases h
  | _, _, _, _, .cls _ _, _, h => by cases h
  | _, _, _, _, .fm _ _ _ _, _, h => by cases h
  | _, _, _, _, .bd _ _, _, h => by cases h
  | _, _, _, _, .bm _ _ _ _, _, h => by cases h
theorem kNs_is (I : Inv X pins σ H s) : ∀ {ds : List D} {vs : List V} {us : List Value} {ks : List NestedKey}, Rps X.kw X.mg m H ds vs → Vals vs us → kNs ds = some ks → NestedAll s.heap ks us
  | _, _, _, _, .nil, .nil, h => by cases h; exact .nil
  | d :: ds, _, _, ks, .cons r rs, .cons v vs, h => by
    have h' : ((kN d).bind fun k => (kNs ds).map (k :: ·)) = some ks := h
    cases q1 : kN d with
    | none => rw [q1] at h'; cases h'
    | some k =>
      cases q2 : kNs ds with
      | none => rw [q1, q2] at h'; cases h'
      | some r' =>
        rw [q1, q2] at h'
        cases h'
        exact .cons (kN_is I r v q1) (kNs_is I rs vs q2)
end
theorem kT_kN {d : D} {k : NestedKey} (h : kT d = some k) : kN d = some k ∧ k.depth ≤ 8 ∧ ∃ ds, d = .tup ds := by
  cases d with
  | tup ds =>
    have h' : ((kNs ds).bind fun ks => if decide ((NestedKey.tup ks).depth ≤ 8) then some (.tup ks) else none) = some k := h
    cases q : kNs ds with
    | none => rw [q] at h'; cases h'
    | some ks =>
      rw [q] at h'
      have h2 : (if decide ((NestedKey.tup ks).depth ≤ 8) then some (NestedKey.tup ks) else none) = some k := h'
      by_cases c : (NestedKey.tup ks).depth ≤ 8
      · rw [if_pos (decide_eq_true c)] at h2
        cases h2
        exact ⟨by show (kNs ds).map NestedKey.tup = _; rw [q]; rfl, c, ds, rfl⟩
      · rw [if_neg (by simpa using c)] at h2
        cases h2
  | _ => cases h
theorem kT_at (I : Inv X pins σ H s) {d : D} {v : V} {u : Value} {k : NestedKey} (r : Rp X.kw X.mg m H d v) (ru : RelV v u) (h : kT d = some k) : ∃ b, v = .ref b ∧ u = .ref b ∧ (nestedKind X.prog X.w).is s.heap k b ∧ Rp X.kw X.mg m H (nD k) (.ref b) := by
  obtain ⟨h1, h2, ds, rfl⟩ := kT_kN h
  have e := nD_kN h1
  cases r with
  | @tup b vs _ g hs =>
    obtain rfl : u = Value.ref b := ru
    exact ⟨b, rfl, rfl, ⟨kN_is I (.tup g hs) rfl h1, h2⟩, by rw [e]; exact .tup g hs⟩
theorem nks_is (I : Inv X pins σ H s) : ∀ {xs : List (NestedKey × Addr × V)}, Rps X.kw X.mg m H (nDs (xs.map (·.1))) (xs.map fun x => V.ref x.2.1) → ∀ x ∈ xs, NestedIs s.heap x.1 (.ref x.2.1)
  | [], _, x, hx => by cases hx
  | y :: xs, h, x, hx => by
    have h' : Rps X.kw X.mg m H (nD y.1 :: nDs (xs.map (·.1))) (V.ref y.2.1 :: xs.map fun x => V.ref x.2.1) := h
    cases h' with
    | cons r rs =>
      rcases List.mem_cons.mp hx with rfl | hx
      · exact kN_is I r rfl (kN_nD _)
      · exact nks_is I rs x hx
theorem XV.mem {xs : List (NestedKey × Addr × V)} {ys : List (NestedKey × Addr × Value)} (h : XV xs ys) : ∀ y ∈ ys, ∃ x ∈ xs, x.1 = y.1 ∧ x.2.1 = y.2.1 := by
  induction h with
  | nil => intro y hy; cases hy
  | cons r _ ih =>
    intro y hy
    rcases List.mem_cons.mp hy with rfl | hy
    · exact ⟨_, List.mem_cons_self, r.1, r.2.1⟩
    · obtain ⟨x, hx, e⟩ := ih y hy
      exact ⟨x, List.mem_cons_of_mem _ hx, e⟩
theorem dn_of (I : Inv X pins σ H s) {a : Addr} {xs : List (NestedKey × Addr × V)} (h : Rd H a (DnO X.w a xs)) (hq : Rps X.kw X.mg m H (nDs (xs.map (·.1))) (xs.map fun x => V.ref x.2.1)) :
    xs.length ≤ sizeLine ∧ (∀ x ∈ xs, x.1.depth ≤ 8) ∧ (a == sysModules) = false ∧ ∃ ys, XV xs ys ∧ s.heap.DictOfH (nestedKind X.prog X.w) a ys := by
  obtain ⟨⟨z1, z2, z3, ys, xv, o, es, ep, g1, g2, g3, g4, g5⟩, _⟩ := (show ObjOk X.prog X.w H s.heap a (DnO X.w a xs) from h.ok I.hok)
  refine ⟨z1, z2, z3, ys, xv, o, es, ep, g1, g2, g3, g4, fun y hy => ?_, g5⟩
  obtain ⟨x, hx, e1, e2⟩ := xv.mem y hy
  exact ⟨by rw [← e1, ← e2]; exact nks_is I hq x hx, by rw [← e1]; exact z2 x hx⟩
theorem nk_val {K : KW} {mg : Str → Option Value} : ∀ {kvs : List (NestedKey × D)} {xs : List (NestedKey × Addr × V)} {ys : List (NestedKey × Addr × Value)}, kvs.map (·.1) = xs.map (·.1) → Rps K mg m H (kvs.map (·.2)) (xs.map (·.2.2)) → XV xs ys → ∀ k,
    (∀ d, valA kvs k = some d → ∃ b v u, atKey ys k = some (b, u) ∧ RelV v u ∧ Rp K mg m H d v) ∧ (valA kvs k = none → atKey ys k = none)
  | [], [], _, _, _, .nil, k => ⟨(fun d e => by cases e), fun _ => rfl⟩
  | p :: kvs, x :: xs, y :: ys, e, r, .cons t ts, k => by
    have e' : p.1 :: kvs.map (·.1) = x.1 :: xs.map (·.1) := e
    obtain ⟨e1, e2⟩ := List.cons.inj e'
    have r' : Rps K mg m H (p.2 :: kvs.map (·.2)) (x.2.2 :: xs.map (·.2.2)) := r
    cases r' with
    | cons r1 r2 =>
      obtain ⟨h1, h2⟩ := nk_val e2 r2 ts k
      obtain ⟨t1, t2, t3⟩ := t
      by_cases c : p.1 = k
      · have c' : y.1 = k := t1.symm.trans (e1.symm.trans c)
        have v1 : valA (p :: kvs) k = some p.2 := by unfold valA; rw [List.find?_cons_of_pos (by simpa using c)]; rfl
        have v2 : atKey (y :: ys) k = some y.2 := by unfold atKey; rw [List.find?_cons_of_pos (by simpa using c')]; rfl
        refine ⟨fun d hd => ?_, fun hn => by rw [v1] at hn; cases hn⟩
        rw [v1] at hd
        cases hd
        exact ⟨y.2.1, x.2.2, y.2.2, v2, t3, r1⟩
      · have c' : ¬ y.1 = k := fun z => c (e1.trans (t1.trans z))
        have v1 : valA (p :: kvs) k = valA kvs k := by unfold valA; rw [List.find?_cons_of_neg (by simpa using c)]
        have v2 : atKey (y :: ys) k = atKey ys k := by unfold atKey; rw [List.find?_cons_of_neg (by simpa using c')]
        rw [v1, v2]
        exact ⟨h1, h2⟩
  | [], _ :: _, _, e, _, _, _ => by cases e
  | _ :: _, [], _, e, _, _, _ => by cases e
theorem nk_some {K : KW} {mg : Str → Option Value} {kvs : List (NestedKey × D)} {xs : List (NestedKey × Addr × V)} {ys : List (NestedKey × Addr × Value)} (e : kvs.map (·.1) = xs.map (·.1)) (r : Rps K mg m H (kvs.map (·.2)) (xs.map (·.2.2))) (t : XV xs ys) (k : NestedKey) : (atKey ys k).isSome = (valA kvs k).isSome := by
  obtain ⟨h1, h2⟩ := nk_val e r t k
  cases q : valA kvs k with
  | none => rw [h2 q]; rfl
  | some d =>
    obtain ⟨b, v, u, h3, _⟩ := h1 d q
    rw [h3]
    rfl
theorem dn_ro {K : KW} {mg : Str → Option Value} {S : Sto} (ra : RelA K mg m H S) {n : Nat} {a : Addr} {b : Bool} {kvs : List (NestedKey × D)} (t : m[n]? = some (a, b)) (h : dnAt S n = some kvs) : ∃ xs, Rd H a (DnO K.w a xs) ∧ NKvs K mg m H kvs xs := by
  unfold dnAt at h
  cases q : S[n]? with
  | none => rw [q] at h; cases h
  | some so =>
    rw [q] at h
    cases so with
    | dn _ =>
      cases h
      obtain ⟨xs, hb, h1, h2⟩ := ra.at_ n (a, b) _ t q
      exact ⟨xs, .inl h1, h2⟩
    | fdn _ =>
      cases h
      obtain ⟨xs, od, hb, h1, h2⟩ := ra.at_ n (a, b) _ t q
      exact ⟨xs, .inr ⟨od, h1⟩, h2⟩
    | _ => cases h
theorem nkvs_zip {K : KW} {mg : Str → Option Value} {xs : List (NestedKey × Addr × V)} {ks : List NestedKey} {ds : List D} (hk : ks = xs.map (·.1)) (hq : Rps K mg m H (nDs ks) (xs.map fun x => V.ref x.2.1)) (hs : Rps K mg m H ds (xs.map (·.2.2))) : NKvs K mg m H (ks.zip ds) xs := by
  have hl : ks.length = ds.length := by
    have h1 := hs.length
    rw [hk]
    simpa using h1
  have e1 : (ks.zip ds).map (·.1) = ks := List.map_fst_zip (l₁ := ks) (l₂ := ds) (by omega)
  have e2 : (ks.zip ds).map (·.2) = ds := List.map_snd_zip (l₁ := ks) (l₂ := ds) (by omega)
  exact ⟨by rw [e1]; exact hk, by rw [← hk]; exact hq, by rw [e2]; exact hs⟩
theorem dn_in (hu : X.A.units + 16 < cLine) {a : Addr} {xs : List (NestedKey × Addr × V)} {kvs : List (NestedKey × D)} {d : D} {v : V} {u : Value} {k : NestedKey} (I : Inv X pins σ H s) (h : Rd H a (DnO X.w a xs)) (nk : NKvs X.kw X.mg m H kvs xs) (r : Rp X.kw X.mg m H d v) (ru : RelV v u) (hk : kT d = some k) {Q : VK} (q : Q (.bl (valA kvs k).isSome) H) :
    wpAny (model X.prog X.w) X.A (compareOp .In u (.ref a)) (EP X pins σ Q) X.xe s := by
  obtain ⟨b, rfl, rfl, hi, _⟩ := kT_at I r ru hk
  obtain ⟨_, _, hsys, ys, xv, dd⟩ := dn_of I h nk.2.1
  refine wpAny_in_heap (knd := nestedKind X.prog X.w) (show X.A.in1.units + 8 < cLine by have : X.A.in1.units = X.A.units + 1 := rfl; omega) hi hsys dd ?_
  exact ⟨.bl (atKey ys k).isSome, H, I.tok _, rfl, by rw [nk_some nk.1 nk.2.2 xv]; exact q⟩
theorem dn_notin (hu : X.A.units + 16 < cLine) {a : Addr} {xs : List (NestedKey × Addr × V)} {kvs : List (NestedKey × D)} {d : D} {v : V} {u : Value} {k : NestedKey} (I : Inv X pins σ H s) (h : Rd H a (DnO X.w a xs)) (nk : NKvs X.kw X.mg m H kvs xs) (r : Rp X.kw X.mg m H d v) (ru : RelV v u) (hk : kT d = some k) {Q : VK} (q : Q (.bl (!(valA kvs k).isSome)) H) :
    wpAny (model X.prog X.w) X.A (compareOp .NotIn u (.ref a)) (EP X pins σ Q) X.xe s := by
  obtain ⟨b, rfl, rfl, hi, _⟩ := kT_at I r ru hk
  obtain ⟨_, _, hsys, ys, xv, dd⟩ := dn_of I h nk.2.1
  refine wpAny_notIn_heap (knd := nestedKind X.prog X.w) (show X.A.in1.units + 8 < cLine by have : X.A.in1.units = X.A.units + 1 := rfl; omega) hi hsys dd ?_
  exact ⟨.bl (!(atKey ys k).isSome), H, I.tok _, rfl, by rw [nk_some nk.1 nk.2.2 xv]; exact q⟩
theorem dn_get {A : Around} {E : Value → Shared → Prop} (hu : A.units + 16 < cLine) {a : Addr} {xs : List (NestedKey × Addr × V)} {kvs : List (NestedKey × D)} {d z : D} {v : V} {u : Value} {k : NestedKey} (I : Inv X pins σ H s) (h : Rd H a (DnO X.w a xs)) (nk : NKvs X.kw X.mg m H kvs xs) (r : Rp X.kw X.mg m H d v) (ru : RelV v u) (hk : kT d = some k) (hz : valA kvs k = some z)
    {Q : Value → Shared → Prop} (q : ∀ w' s', Inv X pins σ H s' → (∃ w, RelV w w' ∧ Rp X.kw X.mg m H z w) → Q w' s') : wpAny (model X.prog X.w) A (getItem (.ref a) u) Q E s := by
  obtain ⟨b, rfl, rfl, hi, _⟩ := kT_at I r ru hk
  obtain ⟨_, _, hsys, ys, xv, dd⟩ := dn_of I h nk.2.1
  obtain ⟨b', w, w', h1, h2, h3⟩ := (nk_val nk.1 nk.2.2 xv k).1 z hz
  refine wpAny_getItem_heap (knd := nestedKind X.prog X.w) (show A.in1.units + 8 < cLine by have : A.in1.units = A.units + 1 := rfl; omega) hi dd h1 ?_
  exact q _ _ (I.tok _) ⟨w, h2, h3⟩
theorem dn_type (I : Inv X pins σ H s) {a : Addr} {xs : List (NestedKey × Addr × V)} (h : Rd H a (DnO X.w a xs)) : s.TypeIs (.ref a) "dict" := by
  obtain ⟨⟨_, _, _, ys, xv, o, es, ep, g1, g2, _⟩, _⟩ := (show ObjOk X.prog X.w H s.heap a (DnO X.w a xs) from h.ok I.hok)
  exact ⟨o, g1, g2.1⟩
def putX (xs : List (NestedKey × Addr × V)) (k : NestedKey) (b : Addr) (v : V) : List (NestedKey × Addr × V) := if (xs.any fun x => decide (x.1 = k)) = true then xs.map (fun x => if x.1 = k then (x.1, x.2.1, v) else x) else xs ++ [(k, b, v)]
theorem xv_any : ∀ {xs : List (NestedKey × Addr × V)} {ys : List (NestedKey × Addr × Value)}, XV xs ys → ∀ k, (xs.any fun x => decide (x.1 = k)) = (atKey ys k).isSome
  | _, _, .nil, k => rfl
  | x :: xs, y :: ys, .cons t ts, k => by
    rw [List.any_cons, xv_any ts k]
    by_cases c : x.1 = k
    · have c' : y.1 = k := t.1.symm.trans c
      have v2 : atKey (y :: ys) k = some y.2 := by unfold atKey; rw [List.find?_cons_of_pos (by simpa using c')]; rfl
      rw [v2]
      simp [c]
    · have c' : ¬ y.1 = k := fun z => c (t.1.trans z)
      have v2 : atKey (y :: ys) k = atKey ys k := by unfold atKey; rw [List.find?_cons_of_neg (by simpa using c')]
      rw [v2]
      simp [c]
theorem xv_put {xs : List (NestedKey × Addr × V)} {ys : List (NestedKey × Addr × Value)} (t : XV xs ys) (k : NestedKey) (b : Addr) {v : V} {u : Value} (ru : RelV v u) : XV (putX xs k b v) (storedH ys k b u) := by
  unfold putX
  rw [xv_any t k]
  unfold storedH
  by_cases c : (atKey ys k).isSome = true
  · rw [if_pos c, if_pos c]
    clear c
    induction t with
    | nil => exact .nil
    | @cons x y xs ys t ts ih =>
      refine .cons ?_ ih
      show (fun p q => p.1 = q.1 ∧ p.2.1 = q.2.1 ∧ RelV p.2.2 q.2.2) (if x.1 = k then (x.1, x.2.1, v) else x) (putAt k u y)
      unfold putAt
      by_cases c : x.1 = k
      · rw [if_pos c, if_pos (t.1.symm.trans c)]
        exact ⟨t.1, t.2.1, ru⟩
      · rw [if_neg c, if_neg (fun z => c (t.1.trans z))]
        exact t
  · rw [if_neg c, if_neg c]
    clear c
    induction t with
    | nil => exact .cons ⟨rfl, rfl, ru⟩ .nil
    | cons t ts ih => exact .cons t ih
theorem nk_put {K : KW} {mg : Str → Option Value} {kvs : List (NestedKey × D)} {xs : List (NestedKey × Addr × V)} (h : NKvs K mg m H kvs xs) {k : NestedKey} {b : Addr} (hb : Rp K mg m H (nD k) (.ref b)) {d : D} {v : V} (r : Rp K mg m H d v) : NKvs K mg m H (putA kvs k d) (putX xs k b v) := by
  obtain ⟨h1, h2, h3⟩ := h
  have ea : (kvs.any fun kv => decide (kv.1 = k)) = xs.any fun x => decide (x.1 = k) := by
    have e1 : (kvs.any fun kv => decide (kv.1 = k)) = (kvs.map (·.1)).any fun z => decide (z = k) := by rw [List.any_map]; rfl
    have e2 : (xs.any fun x => decide (x.1 = k)) = (xs.map (·.1)).any fun z => decide (z = k) := by rw [List.any_map]; rfl
    rw [e1, e2, h1]
  unfold putA putX
  rw [ea]
  by_cases c : (xs.any fun x => decide (x.1 = k)) = true
  · rw [if_pos c, if_pos c]
    have f1 : (kvs.map fun kv => if kv.1 = k then (kv.1, d) else kv).map (·.1) = kvs.map (·.1) := by
      rw [List.map_map]
      refine List.map_congr_left fun kv _ => ?_
      show (if kv.1 = k then (kv.1, d) else kv).1 = kv.1
      split <;> rfl
    have f2 : (xs.map fun x => if x.1 = k then (x.1, x.2.1, v) else x).map (·.1) = xs.map (·.1) := by
      rw [List.map_map]
      refine List.map_congr_left fun kv _ => ?_
      show (if kv.1 = k then (kv.1, kv.2.1, v) else kv).1 = kv.1
      split <;> rfl
    have f3 : ((xs.map fun x => if x.1 = k then (x.1, x.2.1, v) else x).map fun x => V.ref x.2.1) = xs.map fun x => V.ref x.2.1 := by
      rw [List.map_map]
      refine List.map_congr_left fun kv _ => ?_
      show V.ref (if kv.1 = k then (kv.1, kv.2.1, v) else kv).2.1 = V.ref kv.2.1
      split <;> rfl
    refine ⟨by rw [f1, f2]; exact h1, by rw [f2, f3]; exact h2, ?_⟩
    clear f1 f2 f3 c ea h2
    induction kvs generalizing xs with
    | nil =>
      cases xs with
      | nil => exact .nil
      | cons _ _ => cases h1
    | cons p kvs ih =>
      cases xs with
      | nil => cases h1
      | cons x xs =>
        have e' : p.1 :: kvs.map (·.1) = x.1 :: xs.map (·.1) := h1
        obtain ⟨e1, e2⟩ := List.cons.inj e'
        have r' : Rps K mg m H (p.2 :: kvs.map (·.2)) (x.2.2 :: xs.map (·.2.2)) := h3
        cases r' with
        | cons r1 r2 =>
          refine .cons ?_ (ih e2 r2)
          show Rp K mg m H (if p.1 = k then (p.1, d) else p).2 (if x.1 = k then (x.1, x.2.1, v) else x).2.2
          by_cases c : p.1 = k
          · rw [if_pos c, if_pos (e1.symm.trans c)]
            exact r
          · rw [if_neg c, if_neg (fun z => c (e1.trans z))]
            exact r1
  · rw [if_neg c, if_neg c]
    refine ⟨by rw [List.map_append, List.map_append, h1]; rfl, ?_, ?_⟩
    · rw [List.map_append, List.map_append]
      have e : ∀ (l : List NestedKey) (k : NestedKey), nDs (l ++ [k]) = nDs l ++ [nD k] := by
        intro l
        induction l with
        | nil => intro k; rfl
        | cons x l ih => intro k; show nD x :: nDs (l ++ [k]) = nD x :: nDs l ++ [nD k]; rw [ih]; rfl
      show Rps K mg m H (nDs (xs.map (·.1) ++ [k])) _
      rw [e]
      exact h2.append (.cons hb .nil)
    · rw [List.map_append, List.map_append]
      exact h3.append (.cons r .nil)
theorem putX_len (xs : List (NestedKey × Addr × V)) (k : NestedKey) (b : Addr) (v : V) : (putX xs k b v).length ≤ xs.length + 1 := by
  unfold putX
  split
  · rw [List.length_map]; omega
  · rw [List.length_append]; exact Nat.le_refl _
theorem putX_dep {xs : List (NestedKey × Addr × V)} {k : NestedKey} {b : Addr} {v : V} (h : ∀ x ∈ xs, x.1.depth ≤ 8) (hk : k.depth ≤ 8) : ∀ x ∈ putX xs k b v, x.1.depth ≤ 8 := by
  intro x hx
  unfold putX at hx
  split at hx
  · obtain ⟨y, hy, rfl⟩ := List.mem_map.mp hx
    have : (if y.1 = k then (y.1, y.2.1, v) else y).1 = y.1 := by split <;> rfl
    rw [this]
    exact h y hy
  · rcases List.mem_append.mp hx with g | g
    · exact h x g
    · rw [List.mem_singleton.mp g]
      exact hk
theorem dn_set {A : Around} {E : Value → Shared → Prop} (hu : A.units + 16 < cLine) {a : Addr} {xs : List (NestedKey × Addr × V)} {d : D} {v r : V} {u ur : Value} {k : NestedKey} (I : Inv X pins σ H s) (h : H a = some (DnO X.w a xs)) (hq : Rps X.kw X.mg m H (nDs (xs.map (·.1))) (xs.map fun x => V.ref x.2.1)) (rd : Rp X.kw X.mg m H d v) (ru : RelV v u) (hk : kT d = some k) (rr : RelV r ur) (hl : xs.length < sizeLine)
    {Q : Unit → Shared → Prop} (q : ∀ b s', v = .ref b → Rp X.kw X.mg m H (nD k) (.ref b) → Inv X pins σ (upd H a (DnO X.w a (putX xs k b r))) s' → Q () s') : wpAny (model X.prog X.w) A (setItem (.ref a) u ur) Q E s := by
  obtain ⟨b, rfl, rfl, hi, hb⟩ := kT_at I rd ru hk
  obtain ⟨z1, z2, hsys, ys, xv, dd⟩ := dn_of I (.inl h) hq
  have hlen : ys.length ≤ sizeLine := by rw [← Paired.length xv]; exact z1
  refine wpAny_setItem_heap (hsz := hlen) (knd := nestedKind X.prog X.w) (show A.in1.units + 8 < cLine by have : A.in1.units = A.units + 1 := rfl; omega) hi dd fun h' dd' hs => q b _ rfl hb ?_
  obtain ⟨o, es, ep, hq', h2, h3, h4, _, h5⟩ := dd'
  have hl2 := putX_len xs k b r
  refine d_write I (by rw [h]; exact True.intro) hs ⟨o, hq'⟩ ⟨⟨by omega, putX_dep z2 (kT_kN hk).2.1, hsys, _, xv_put xv k b rr, o, es, ep, hq', h2, h3, h4, h5⟩, ⟨o, hq'⟩, fun h1 h2' ⟨c1, c2, c3, ys', c4, o', es', ep', c5, c6⟩ kk => ⟨c1, c2, c3, ys', c4, o', es', ep', kk _ c5, c6⟩⟩
end
theorem op_in_any {cb : Bool} (c : Ctx cb X) : OpR X (compareOp .In) (rC X.kw X.mg inD) := by
  intro pins s σ H x y v u Q I rx ry ⟨m, S, d, e, b, ra, rd, re, h, q⟩
  cases re with
  | tup z hs =>
    rename_i a vs ds
    have h' : inSeq d ds = some b := h
    unfold inSeq at h'
    by_cases cc : (flatD d && ds.all flatD) = true
    · rw [if_pos cc] at h'
      obtain ⟨c1, c2⟩ := Bool.and_eq_true_iff.mp cc
      cases h'
      exact op_in_seq pins s σ H _ _ v u Q I rx ry ⟨a, vs, rfl, .inr z.t, flat_v rd c1, flats_v hs c2, by rw [if_neg (by decide), anyf_v rd c1 hs c2]; exact q⟩
    · rw [if_neg cc] at h'
      cases h'
  | loc z =>
    rename_i n a _
    have h0 : (match dicAt S n with
      | some kvs => (kD d).map fun k => (valA kvs k).isSome
      | none => match dnAt S n with
        | some kvs => (kT d).map fun k => (valA kvs k).isSome
        | none => inDeep d (.loc n) S) = some b := h
    cases hdc : dicAt S n with
    | some kvs =>
      rw [hdc] at h0
      have h1 : ((kD d).map fun k => (valA kvs k).isSome) = some b := h0
      cases hk : kD d with
      | none => rw [hk] at h1; cases h1
      | some k =>
        rw [hk] at h1
        cases h1
        obtain ⟨ks, g1, g2⟩ := dic_ro ra z hdc
        have ex := kD_v hk rd
        subst ex
        have ev : v = v := rfl
        obtain rfl : u = Value.ref a := ry
        have e : (valV ks k).isSome = (valA kvs k).isSome := by
          obtain ⟨t1, t2⟩ := kvs_val g2 k
          cases hv : valA kvs k with
          | none =>
            rw [t2 hv]
            rfl
          | some dd =>
            obtain ⟨w, hw, _⟩ := t1 dd hv
            rw [hw]
            rfl
        refine d_in (by have := c.hu; omega) I (DGet.kr g1) rx fun s' I' => ⟨.bl (valV ks k).isSome, H, I', rfl, ?_⟩
        rw [e]
        exact q
    | none =>
    rw [hdc] at h0
    have h00 : (match dnAt S n with
      | some kvs => (kT d).map fun k => (valA kvs k).isSome
      | none => inDeep d (.loc n) S) = some b := h0
    cases hdn : dnAt S n with
    | some kvs =>
      rw [hdn] at h00
      have h1 : ((kT d).map fun k => (valA kvs k).isSome) = some b := h00
      cases hk : kT d with
      | none => rw [hk] at h1; cases h1
      | some k =>
        rw [hk] at h1
        cases h1
        obtain ⟨xs, g1, g2⟩ := dn_ro ra z hdn
        obtain rfl : u = Value.ref a := ry
        exact dn_in (by have := c.hu; omega) I g1 g2 rd rx hk q
    | none =>
    rw [hdn] at h00
    have h' : inDeep d (.loc n) S = some b := h00
    unfold inDeep at h'
    cases h1 : toP S 50 d with
    | none => rw [h1] at h'; cases h'
    | some p =>
      rw [h1] at h'
      cases h2 : toP S 50 (.loc n) with
      | none => rw [h2] at h'; cases h'
      | some r =>
        rw [h2] at h'
        cases r with
        | list ds =>
          have h'' : (if SeqAt.shaped p && SeqAt.shaped (.list ds) then some (ds.any fun z => PyData.eqv z p) else none) = some b := h'
          by_cases cc : (SeqAt.shaped p && SeqAt.shaped (.list ds)) = true
          · rw [if_pos cc] at h''
            obtain ⟨c1, c2⟩ := Bool.and_eq_true_iff.mp cc
            cases h''
            exact op_inD (by have := c.hu; omega) pins s σ H _ _ v u Q I rx ry ⟨p, ds, toP_dp ra 50 _ _ _ rd h1, toP_dp ra 50 _ _ _ (.loc z) h2, c1, c2, q⟩
          · rw [if_neg cc] at h''
            cases h''
        | _ => cases h'
  | fl z hs =>
    rename_i a o vs ds
    have h' : inDeep d (.fl ds) S = some b := h
    unfold inDeep at h'
    cases h1 : toP S 50 d with
    | none => rw [h1] at h'; cases h'
    | some p =>
      rw [h1] at h'
      cases h2 : toP S 50 (.fl ds) with
      | none => rw [h2] at h'; cases h'
      | some r =>
        rw [h2] at h'
        cases r with
        | list ps =>
          have h'' : (if SeqAt.shaped p && SeqAt.shaped (.list ps) then some (ps.any fun z => PyData.eqv z p) else none) = some b := h'
          by_cases cc : (SeqAt.shaped p && SeqAt.shaped (.list ps)) = true
          · rw [if_pos cc] at h''
            obtain ⟨c1, c2⟩ := Bool.and_eq_true_iff.mp cc
            cases h''
            exact op_inD (by have := c.hu; omega) pins s σ H _ _ v u Q I rx ry ⟨p, ps, toP_dp ra 50 _ _ _ rd h1, toP_dp ra 50 _ _ _ (.fl z hs) h2, c1, c2, q⟩
          · rw [if_neg cc] at h''
            cases h''
        | _ => cases h'
  | fd z hk hs =>
    rename_i a o kvs ks ds
    have h1 : ((kD d).map fun k => (valA (ks.zip ds) k).isSome) = some b := h
    cases hkk : kD d with
    | none => rw [hkk] at h1; cases h1
    | some k =>
      rw [hkk] at h1
      cases h1
      have ex := kD_v hkk rd
      subst ex
      obtain rfl : u = Value.ref a := ry
      have g2 : Kvs X.kw X.mg m H (ks.zip ds) kvs := kvs_zip hk hs
      have e : (valV kvs k).isSome = (valA (ks.zip ds) k).isSome := by
        obtain ⟨t1, t2⟩ := kvs_val g2 k
        cases hv : valA (ks.zip ds) k with
        | none =>
          rw [t2 hv]
          rfl
        | some dd =>
          obtain ⟨w, hw, _⟩ := t1 dd hv
          rw [hw]
          rfl
      refine d_in (by have := c.hu; omega) I (DGet.kr (.inr ⟨o, z⟩)) rx fun s' I' => ⟨.bl (valV kvs k).isSome, H, I', rfl, ?_⟩
      rw [e]
      exact q
  | fm z hk hq hs =>
    rename_i a o xs ks ds
    have h1 : ((kT d).map fun k => (valA (ks.zip ds) k).isSome) = some b := h
    cases hkk : kT d with
    | none => rw [hkk] at h1; cases h1
    | some k =>
      rw [hkk] at h1
      cases h1
      obtain rfl : u = Value.ref a := ry
      exact dn_in (by have := c.hu; omega) I (.inr ⟨o, z⟩) (nkvs_zip hk hq hs) rd rx hkk q
  | str z =>
    cases rd with
    | str w => exact op_in_str pins s σ H _ _ v u Q I rx ry ⟨w, z, rfl, rfl, by cases h; exact q⟩
    | _ => cases h
  | _ => cases h
theorem op_notin_any {cb : Bool} (c : Ctx cb X) : OpR X (compareOp .NotIn) (rC X.kw X.mg fun x y S => (inD x y S).map (!·)) := by
  intro pins s σ H x y v u Q I rx ry ⟨m, S, d, e, b, ra, rd, re, hh, q⟩
  obtain ⟨b', h, rfl⟩ := cmp_some hh
  cases re with
  | tup z hs =>
    rename_i a vs ds
    have h' : inSeq d ds = some b' := h
    unfold inSeq at h'
    by_cases cc : (flatD d && ds.all flatD) = true
    · rw [if_pos cc] at h'
      obtain ⟨c1, c2⟩ := Bool.and_eq_true_iff.mp cc
      cases h'
      exact op_notIn_seq pins s σ H _ _ v u Q I rx ry ⟨a, vs, rfl, .inr z.t, flat_v rd c1, flats_v hs c2, by rw [if_pos rfl, anyf_v rd c1 hs c2]; exact q⟩
    · rw [if_neg cc] at h'
      cases h'
  | loc z =>
    rename_i n a _
    have h0 : (match dicAt S n with
      | some kvs => (kD d).map fun k => (valA kvs k).isSome
      | none => match dnAt S n with
        | some kvs => (kT d).map fun k => (valA kvs k).isSome
        | none => inDeep d (.loc n) S) = some b' := h
    cases hdc : dicAt S n with
    | some kvs =>
      rw [hdc] at h0
      have h1 : ((kD d).map fun k => (valA kvs k).isSome) = some b' := h0
      cases hk : kD d with
      | none => rw [hk] at h1; cases h1
      | some k =>
        rw [hk] at h1
        cases h1
        obtain ⟨ks, g1, g2⟩ := dic_ro ra z hdc
        have ex := kD_v hk rd
        subst ex
        have ev : v = v := rfl
        obtain rfl : u = Value.ref a := ry
        have e : (valV ks k).isSome = (valA kvs k).isSome := by
          obtain ⟨t1, t2⟩ := kvs_val g2 k
          cases hv : valA kvs k with
          | none =>
            rw [t2 hv]
            rfl
          | some dd =>
            obtain ⟨w, hw, _⟩ := t1 dd hv
            rw [hw]
            rfl
        refine d_notIn (by have := c.hu; omega) I (DGet.kr g1) rx fun s' I' => ⟨.bl (!(valV ks k).isSome), H, I', rfl, ?_⟩
        rw [e]
        exact q
    | none =>
    rw [hdc] at h0
    have h00 : (match dnAt S n with
      | some kvs => (kT d).map fun k => (valA kvs k).isSome
      | none => inDeep d (.loc n) S) = some b' := h0
    cases hdn : dnAt S n with
    | some kvs =>
      rw [hdn] at h00
      have h1 : ((kT d).map fun k => (valA kvs k).isSome) = some b' := h00
      cases hk : kT d with
      | none => rw [hk] at h1; cases h1
      | some k =>
        rw [hk] at h1
        cases h1
        obtain ⟨xs, g1, g2⟩ := dn_ro ra z hdn
        obtain rfl : u = Value.ref a := ry
        exact dn_notin (by have := c.hu; omega) I g1 g2 rd rx hk q
    | none =>
    rw [hdn] at h00
    have h' : inDeep d (.loc n) S = some b' := h00
    unfold inDeep at h'
    cases h1 : toP S 50 d with
    | none => rw [h1] at h'; cases h'
    | some p =>
      rw [h1] at h'
      cases h2 : toP S 50 (.loc n) with
      | none => rw [h2] at h'; cases h'
      | some r =>
        rw [h2] at h'
        cases r with
        | list ds =>
          have h'' : (if SeqAt.shaped p && SeqAt.shaped (.list ds) then some (ds.any fun z => PyData.eqv z p) else none) = some b' := h'
          by_cases cc : (SeqAt.shaped p && SeqAt.shaped (.list ds)) = true
          · rw [if_pos cc] at h''
            obtain ⟨c1, c2⟩ := Bool.and_eq_true_iff.mp cc
            cases h''
            exact op_notInD (by have := c.hu; omega) pins s σ H _ _ v u Q I rx ry ⟨p, ds, toP_dp ra 50 _ _ _ rd h1, toP_dp ra 50 _ _ _ (.loc z) h2, c1, c2, q⟩
          · rw [if_neg cc] at h''
            cases h''
        | _ => cases h'
  | fl z hs =>
    rename_i a o vs ds
    have h' : inDeep d (.fl ds) S = some b' := h
    unfold inDeep at h'
    cases h1 : toP S 50 d with
    | none => rw [h1] at h'; cases h'
    | some p =>
      rw [h1] at h'
      cases h2 : toP S 50 (.fl ds) with
      | none => rw [h2] at h'; cases h'
      | some r =>
        rw [h2] at h'
        cases r with
        | list ps =>
          have h'' : (if SeqAt.shaped p && SeqAt.shaped (.list ps) then some (ps.any fun z => PyData.eqv z p) else none) = some b' := h'
          by_cases cc : (SeqAt.shaped p && SeqAt.shaped (.list ps)) = true
          · rw [if_pos cc] at h''
            obtain ⟨c1, c2⟩ := Bool.and_eq_true_iff.mp cc
            cases h''
            exact op_notInD (by have := c.hu; omega) pins s σ H _ _ v u Q I rx ry ⟨p, ps, toP_dp ra 50 _ _ _ rd h1, toP_dp ra 50 _ _ _ (.fl z hs) h2, c1, c2, q⟩
          · rw [if_neg cc] at h''
            cases h''
        | _ => cases h'
  | fd z hk hs =>
    rename_i a o kvs ks ds
    have h1 : ((kD d).map fun k => (valA (ks.zip ds) k).isSome) = some b' := h
    cases hkk : kD d with
    | none => rw [hkk] at h1; cases h1
    | some k =>
      rw [hkk] at h1
      cases h1
      have ex := kD_v hkk rd
      subst ex
      obtain rfl : u = Value.ref a := ry
      have g2 : Kvs X.kw X.mg m H (ks.zip ds) kvs := kvs_zip hk hs
      have e : (valV kvs k).isSome = (valA (ks.zip ds) k).isSome := by
        obtain ⟨t1, t2⟩ := kvs_val g2 k
        cases hv : valA (ks.zip ds) k with
        | none =>
          rw [t2 hv]
          rfl
        | some dd =>
          obtain ⟨w, hw, _⟩ := t1 dd hv
          rw [hw]
          rfl
      refine d_notIn (by have := c.hu; omega) I (DGet.kr (.inr ⟨o, z⟩)) rx fun s' I' => ⟨.bl (!(valV kvs k).isSome), H, I', rfl, ?_⟩
      rw [e]
      exact q
  | fm z hk hq hs =>
    rename_i a o xs ks ds
    have h1 : ((kT d).map fun k => (valA (ks.zip ds) k).isSome) = some b' := h
    cases hkk : kT d with
    | none => rw [hkk] at h1; cases h1
    | some k =>
      rw [hkk] at h1
      cases h1
      obtain rfl : u = Value.ref a := ry
      exact dn_notin (by have := c.hu; omega) I (.inr ⟨o, z⟩) (nkvs_zip hk hq hs) rd rx hkk q
  | str z =>
    cases rd with
    | str w => exact op_notin_str pins s σ H _ _ v u Q I rx ry ⟨w, z, rfl, rfl, by cases h; exact q⟩
    | _ => cases h
  | _ => cases h
theorem qEq_cases {x y : D} {S : Sto} {b : Bool} (h : qEq x y S = some b) : (∃ i j, x = .int i ∧ y = .int j ∧ b = (i == j)) ∨ (∃ i j, x = .str i ∧ y = .str j ∧ b = (i == j)) ∨ eqD x y S = some b ∨ lenNe x y S = some b := by
  unfold qEq at h
  split at h
  · cases h
    exact .inl ⟨_, _, rfl, rfl, rfl⟩
  · cases h
    exact .inr (.inl ⟨_, _, rfl, rfl, rfl⟩)
  · split at h
    · rename_i q
      cases h
      exact .inr (.inr (.inl q))
    · exact .inr (.inr (.inr h))
theorem lenNe_ok {K : KW} {mg : Str → Option Value} {m : Mp} {H : Hp} {S : Sto} (ra : RelA K mg m H S) {d e : D} {x y : V} {b : Bool} (rx : Rp K mg m H d x) (ry : Rp K mg m H e y) (h : lenNe d e S = some b) :
    b = false ∧ ∃ a c vs ws, x = .ref a ∧ y = .ref c ∧ SqL K H a vs ∧ SqL K H c ws ∧ vs.length ≠ ws.length := by
  unfold lenNe at h
  cases h1 : lstD S d with
  | none => rw [h1] at h; cases h
  | some ds =>
    cases h2 : lstD S e with
    | none => rw [h1, h2] at h; cases h
    | some es =>
      rw [h1, h2] at h
      have h' : (if ds.length = es.length then none else some false) = some b := h
      by_cases e : ds.length = es.length
      · rw [if_pos e] at h'
        cases h'
      · rw [if_neg e] at h'
        cases h'
        obtain ⟨_, vs, rfl, g1, g2⟩ := ra.seqD rx h1
        obtain ⟨_, ws, rfl, g3, g4⟩ := ra.seqD ry h2
        exact ⟨rfl, _, _, vs, ws, rfl, rfl, g1, g3, by rw [g2.length, g4.length]; exact e⟩
theorem decStr {i j : Str} : decide (V.str i = V.str j) = (i == j) := by
  rw [Bool.eq_iff_iff]
  simp
theorem op_cmp {cb : Bool} (c : Ctx cb X) : ∀ op : CmpOp, OpR X (compareOp op) (rC X.kw X.mg (cmpD op))
  | .Eq => fun pins s σ H x y v u Q I rx ry ⟨m, S, d, e, b, ra, rd, re, h, q⟩ => by
    rcases qEq_cases h with ⟨i, j, rfl, rfl, rfl⟩ | ⟨i, j, rfl, rfl, rfl⟩ | h | hln
    · cases rd
      cases re
      exact op_eq pins s σ H _ _ v u Q I rx ry ⟨rfl, by rw [dec_int]; exact q⟩
    · cases rd
      cases re
      exact op_eq pins s σ H _ _ v u Q I rx ry ⟨rfl, by rw [decStr]; exact q⟩
    · obtain ⟨p, r, h1, h2, h3, h4, rfl⟩ := eqD_ok ra rd re h
      exact op_eqD (by have := c.hu; omega) pins s σ H _ _ v u Q I rx ry ⟨p, r, h1, h2, h3, h4, q⟩
    · obtain ⟨rfl, a, b, vs, ws, rfl, rfl, g1, g2, g3⟩ := lenNe_ok ra rd re hln
      cases rx
      cases ry
      obtain ⟨its, r1, t1, _⟩ := I.list g1
      obtain ⟨jts, r2, t2, _⟩ := I.list g2
      have l1 := r1.length
      have l2 := r2.length
      exact SeqAt.eq_list_lengthsAt t1.isList t2.isList (by simp only [List.size_toArray, bne_iff_ne]; omega) (by have := c.hu; omega) ⟨.bl false, H, I, rfl, q⟩
  | .NotEq => fun pins s σ H x y v u Q I rx ry ⟨m, S, d, e, b, ra, rd, re, hh, q⟩ => by
    obtain ⟨b', h, rfl⟩ := cmp_some hh
    rcases qEq_cases h with ⟨i, j, rfl, rfl, rfl⟩ | ⟨i, j, rfl, rfl, rfl⟩ | h | hln
    · cases rd
      cases re
      exact op_ne pins s σ H _ _ v u Q I rx ry ⟨rfl, by rw [dec_int]; exact q⟩
    · cases rd
      cases re
      exact op_ne pins s σ H _ _ v u Q I rx ry ⟨rfl, by rw [decStr]; exact q⟩
    · obtain ⟨p, r, h1, h2, h3, h4, rfl⟩ := eqD_ok ra rd re h
      exact op_neD (by have := c.hu; omega) pins s σ H _ _ v u Q I rx ry ⟨p, r, h1, h2, h3, h4, q⟩
    · obtain ⟨rfl, a, b, vs, ws, rfl, rfl, g1, g2, g3⟩ := lenNe_ok ra rd re hln
      cases rx
      cases ry
      obtain ⟨its, r1, t1, _⟩ := I.list g1
      obtain ⟨jts, r2, t2, _⟩ := I.list g2
      have l1 := r1.length
      have l2 := r2.length
      exact SeqAt.RcNeAt.lists_lengths t1.isList t2.isList (by simp only [List.size_toArray, bne_iff_ne]; omega) (by have := c.hu; omega) X.prog X.w _ _ ⟨.bl true, H, I, rfl, q⟩
  | .Lt => fun pins s σ H x y v u Q I rx ry ⟨m, S, d, e, b, ra, rd, re, h, q⟩ => by
    cases rd <;> cases re <;> first | (cases h; done) | exact op_lt pins s σ H _ _ v u Q I rx ry ⟨_, _, rfl, rfl, by cases h; exact q⟩
  | .LtE => fun pins s σ H x y v u Q I rx ry ⟨m, S, d, e, b, ra, rd, re, h, q⟩ => by
    cases rd <;> cases re <;> first | (cases h; done) | exact op_le pins s σ H _ _ v u Q I rx ry ⟨_, _, rfl, rfl, by cases h; exact q⟩
  | .Gt => fun pins s σ H x y v u Q I rx ry ⟨m, S, d, e, b, ra, rd, re, h, q⟩ => by
    cases rd <;> cases re <;> first | (cases h; done) | exact op_gt pins s σ H _ _ v u Q I rx ry ⟨_, _, rfl, rfl, by cases h; exact q⟩
  | .GtE => fun pins s σ H x y v u Q I rx ry ⟨m, S, d, e, b, ra, rd, re, h, q⟩ => by
    cases rd <;> cases re <;> first | (cases h; done) | exact op_ge pins s σ H _ _ v u Q I rx ry ⟨_, _, rfl, rfl, by cases h; exact q⟩
  | .In => op_in_any c
  | .NotIn => op_notin_any c
  | .Is => fun pins s σ H x y v u Q I rx ry ⟨m, S, d, e, b, ra, rd, re, h, q⟩ => by
    cases re <;> first | (cases h; done) | exact op_isN pins s σ H _ _ v u Q I rx ry ⟨rfl, by rw [isNon_v rd]; cases h; exact q⟩
  | .IsNot => fun pins s σ H x y v u Q I rx ry ⟨m, S, d, e, b, ra, rd, re, h, q⟩ => by
    cases re <;> first | (cases h; done) | exact op_notN pins s σ H _ _ v u Q I rx ry ⟨rfl, by rw [isNon_v rd]; cases h; exact q⟩
def rIx' (K : KW) (mg : Str → Option Value) : R2 := fun x y H Q => ∃ m S d e z, RelA K mg m H S ∧ Rp K mg m H d x ∧ Rp K mg m H e y ∧ ixD d e S = some z ∧ ∀ v, Rp K mg m H z v → Q v H
theorem ix_any {cb : Bool} (c : Ctx cb X) : IxR X (rIx' X.kw X.mg) := by
  intro value slice pins s σ H x y v u Q I rx ry ⟨m, S, d, e, z, ra, rd, re, h, q⟩ hs
  cases rd with
  | fl t hv =>
    cases re with
    | int i =>
      obtain ⟨w, h1, h2⟩ := hv.atI h
      exact ix_list value slice pins s σ H _ _ v u Q I rx ry ⟨_, _, i, w, rfl, rfl, .inl (.inr ⟨_, t⟩), h1, q w h2⟩ hs
    | _ => cases h
  | fd t hk hv =>
    rename_i a o kvs ks ds
    have h3' : ((kD e).bind fun k => valA (ks.zip ds) k) = some z := h
    cases hkk : kD e with
    | none => rw [hkk] at h3'; cases h3'
    | some k =>
      rw [hkk] at h3'
      have h4' : valA (ks.zip ds) k = some z := h3'
      obtain ⟨w, hw, rw'⟩ := (kvs_val (kvs_zip hk hv) k).1 z h4'
      have ey := kD_v hkk re
      subst ey
      obtain rfl : v = Value.ref a := rx
      have g : DGet H a (kV k) (some w) := hw ▸ DGet.kr (.inr ⟨o, t⟩)
      exact tail_any (dict_typeIs I g) slot_dict_getitem.lookup (d_getItem (by have := c.hu; omega) I g ry fun w' s' I' r' => ⟨w, H, I', r', q w rw'⟩) hs
  | fm t hk hq hv =>
    rename_i a o xs ks ds
    have h3' : ((kT e).bind fun k => valA (ks.zip ds) k) = some z := h
    cases hkk : kT e with
    | none => rw [hkk] at h3'; cases h3'
    | some k =>
      rw [hkk] at h3'
      have h4' : valA (ks.zip ds) k = some z := h3'
      obtain rfl : v = Value.ref a := rx
      have g : Rd H a (DnO X.w a xs) := .inr ⟨o, t⟩
      exact tail_any (dn_type I g) slot_dict_getitem.lookup (dn_get (by have := c.hu; omega) I g (nkvs_zip hk hq hv) re ry hkk h4' fun w' s' I' ⟨w, r', rw'⟩ => ⟨w, H, I', r', q w rw'⟩) hs
  | tup t hv =>
    cases re with
    | int i =>
      obtain ⟨w, h1, h2⟩ := hv.atI h
      exact ix_tup value slice pins s σ H _ _ v u Q I rx ry ⟨_, _, i, w, rfl, rfl, t.t, h1, q w h2⟩ hs
    | _ => cases h
  | loc t =>
    rename_i n a _
    have h' : ixL (lstAt S n) (dicAt S n) (dnAt S n) e = some z := h
    cases hl : lstAt S n with
    | some ds =>
      rw [hl] at h'
      cases re with
      | int i =>
        have h2' : atI ds i = some z := h'
        obtain ⟨vs, h3, h4⟩ := ra.seq t hl
        obtain ⟨w, h1, h2⟩ := h4.atI h2'
        exact ix_list value slice pins s σ H _ _ v u Q I rx ry ⟨_, _, i, w, rfl, rfl, h3, h1, q w h2⟩ hs
      | _ => cases h'
    | none =>
      rw [hl] at h'
      have h2' : (match dicAt S n with
        | some kvs => (kD e).bind fun k => valA kvs k
        | none => (dnAt S n).bind fun kvs => (kT e).bind fun k => valA kvs k) = some z := h'
      cases hdc : dicAt S n with
      | none =>
        rw [hdc] at h2'
        have h20 : ((dnAt S n).bind fun kvs => (kT e).bind fun k => valA kvs k) = some z := h2'
        cases hdn : dnAt S n with
        | none => rw [hdn] at h20; cases h20
        | some kvs =>
          rw [hdn] at h20
          have h21 : ((kT e).bind fun k => valA kvs k) = some z := h20
          cases hk : kT e with
          | none => rw [hk] at h21; cases h21
          | some k =>
            rw [hk] at h21
            have h22 : valA kvs k = some z := h21
            obtain ⟨xs, g1, g2⟩ := dn_ro ra t hdn
            obtain rfl : v = Value.ref a := rx
            exact tail_any (dn_type I g1) slot_dict_getitem.lookup (dn_get (by have := c.hu; omega) I g1 g2 re ry hk h22 fun w' s' I' ⟨w, r', rw'⟩ => ⟨w, H, I', r', q w rw'⟩) hs
      | some kvs =>
        rw [hdc] at h2'
        have h3' : ((kD e).bind fun k => valA kvs k) = some z := h2'
        cases hk : kD e with
        | none => rw [hk] at h3'; cases h3'
        | some k =>
          rw [hk] at h3'
          have h4' : valA kvs k = some z := h3'
          obtain ⟨ks, g1, g2⟩ := dic_ro ra t hdc
          obtain ⟨w, hw, rw'⟩ := (kvs_val g2 k).1 z h4'
          have ey := kD_v hk re
          subst ey
          obtain rfl : v = Value.ref a := rx
          have g : DGet H a (kV k) (some w) := hw ▸ DGet.kr g1
          exact tail_any (dict_typeIs I g) slot_dict_getitem.lookup (d_getItem (by have := c.hu; omega) I g ry fun w' s' I' r' => ⟨w, H, I', r', q w rw'⟩) hs
  | str t =>
    cases re with
    | int i =>
      have h' : (if t.length ≤ sizeLine then (atI t.cps.toList i).map fun c => D.str ⟨#[c]⟩ else none) = some z := h
      by_cases c : t.length ≤ sizeLine
      · rw [if_pos c] at h'
        cases hc : atI t.cps.toList i with
        | none => rw [hc] at h'; cases h'
        | some k =>
          rw [hc] at h'
          cases h'
          exact ix_str value slice pins s σ H _ _ v u Q I rx ry ⟨t, i, k, rfl, rfl, c, hc, q _ (.str _)⟩ hs
      · rw [if_neg c] at h'
        cases h'
    | _ => cases h
  | _ => cases h
def rSl' (K : KW) (mg : Str → Option Value) : V → Option Int → Option Int → Hp → VK → Prop := fun x lo hi H Q => ∃ W m S d, RelA K mg m H S ∧ Rp K mg m H d x ∧ Post K mg W (Rp K mg) m H (slD d lo hi S) Q
theorem sl_any : SlR X (rSl' X.kw X.mg) := by
  intro pins s σ H x v vl vu lo hi sl Q I rx hsl pl pu ⟨W, m, S, d, ra, rd, p⟩
  cases rd with
  | fl t hv =>
    rename_i a o vs ds
    exact sl_list pins s σ H _ v vl vu lo hi sl Q I rx hsl pl pu ⟨a, vs, rfl, .inl (.inr ⟨_, t⟩), post_mk ra (hv.cut lo hi) p⟩
  | tup t hv =>
    rename_i a vs ds
    have p' : Post X.kw X.mg W (Rp X.kw X.mg) m H (.ok (.tup (cut ds lo hi)) S) Q := p
    refine sl_tupA pins s σ H _ v vl vu lo hi sl Q I rx hsl pl pu ⟨a, vs, rfl, t.t, fun ⟨z1, z2⟩ => ?_, fun _ => post_tup ra (hv.cut lo hi) p'⟩
    have e : cut ds lo hi = ds := by
      unfold cut
      rw [hv.length] at z1 z2
      rw [z1, z2]
      simp
    rw [e] at p'
    exact p'.now ra (.tup t hv)
  | loc t =>
    rename_i n a _
    have p' : Post X.kw X.mg W (Rp X.kw X.mg) m H (match lstAt S n with
      | some ds => mk (.lst (cut ds lo hi)) S
      | none => .bad) Q := p
    cases hl : lstAt S n with
    | none => rw [hl] at p'; exact p'.elim
    | some ds =>
      rw [hl] at p'
      obtain ⟨vs, h3, h4⟩ := ra.seq t hl
      exact sl_list pins s σ H _ v vl vu lo hi sl Q I rx hsl pl pu ⟨a, vs, rfl, h3, post_mk ra (h4.cut lo hi) p'⟩
  | str z =>
    have p' : Post X.kw X.mg W (Rp X.kw X.mg) m H (if z.length ≤ sizeLine then .ok (.str (L2.cutS z lo hi)) S else .bad) Q := p
    by_cases c : z.length ≤ sizeLine
    · rw [if_pos c] at p'
      exact sl_str pins s σ H _ v vl vu lo hi sl Q I rx hsl pl pu ⟨z, rfl, c, p'.now ra (.str _)⟩
    · rw [if_neg c] at p'
      exact p'.elim
  | _ => exact p.elim
def rSet' (K : KW) (mg : Str → Option Value) : TSet := fun o i v H Q => ∃ m S d e f S', RelA K mg m H S ∧ Rp K mg m H d o ∧ Rp K mg m H e i ∧ Rp K mg m H f v ∧ setIx d e f S = some S' ∧ ∀ H', Le m m H H' → RelA K mg m H' S' → Q H'
theorem set_any {cb : Bool} (c : Ctx cb X) : PSet X (rSet' X.kw X.mg) := by
  intro pins s σ H o i v ov iv u Q I ro ri rv ⟨m, S, d, e, f, S', ra, rd, re, rf, h, q⟩
  cases rd with
  | loc t =>
    rename_i n a _
    have h' : (match S[n]? with
      | some (.lst ds) => match (generalizing := false) e with
        | .int k => (ixN ds.length k).map fun j => S.set n (.lst (ds.set j f))
        | _ => none
      | some (.dic kvs) => (kD e).bind fun k => if kvs.length < sizeLine then some (S.set n (.dic (putA kvs k f))) else none
      | some (.dn kvs) => (kT e).bind fun k => if kvs.length < sizeLine then some (S.set n (.dn (putA kvs k f))) else none
      | _ => none) = some S' := h
    cases hl : S[n]? with
    | none => rw [hl] at h'; cases h'
    | some so =>
      rw [hl] at h'
      cases so with
      | lst ds =>
        cases re with
        | int k =>
          have h'' : ((ixN ds.length k).map fun j => S.set n (.lst (ds.set j f))) = some S' := h'
          obtain ⟨vs, h1, h2⟩ := ra.lst t hl
          cases hj : ixN ds.length k with
          | none => rw [hj] at h''; cases h''
          | some j =>
            rw [hj] at h''
            cases h''
            exact set_list pins s σ H _ _ _ ov iv u Q I ro ri rv ⟨a, vs, k, j, rfl, rfl, h1, by rw [h2.length]; exact hj, q _ (Le.write ra t hl h1) (ra.write t hl h1 (h2.set rf j))⟩
        | _ => cases h'
      | dn kvs =>
        have h'' : ((kT e).bind fun k => if kvs.length < sizeLine then some (S.set n (.dn (putA kvs k f))) else none) = some S' := h'
        cases hk : kT e with
        | none => rw [hk] at h''; cases h''
        | some k =>
          rw [hk] at h''
          have h3' : (if kvs.length < sizeLine then some (S.set n (.dn (putA kvs k f))) else none) = some S' := h''
          by_cases cl : kvs.length < sizeLine
          · rw [if_pos cl] at h3'
            cases h3'
            obtain ⟨xs, hb, g1, g2⟩ := ra.at_ n _ _ t hl
            have hb' : _ = false := hb
            subst hb'
            obtain rfl : ov = Value.ref a := ro
            have hlen : xs.length < sizeLine := by
              have e : (kvs.map (·.1)).length = (xs.map (·.1)).length := by rw [g2.1]
              rw [List.length_map, List.length_map] at e
              omega
            refine dn_set (by have := c.hu; omega) I g1 g2.2.1 re ri hk rv hlen fun b' s' ev hb2 I' => ?_
            have le : Le m m H (upd H a (DnO X.w a (putX xs k b' v))) := Le.writeO t g1 trivial
            exact ⟨_, I', q _ le (ra.writeO t g1 trivial ⟨_, rfl, upd_same, nk_put (g2.mov le.lt) (hb2.mono le) (rf.mono le)⟩)⟩
          · rw [if_neg cl] at h3'
            cases h3'
      | dic kvs =>
        have h'' : ((kD e).bind fun k => if kvs.length < sizeLine then some (S.set n (.dic (putA kvs k f))) else none) = some S' := h'
        cases hk : kD e with
        | none => rw [hk] at h''; cases h''
        | some k =>
          rw [hk] at h''
          have h3' : (if kvs.length < sizeLine then some (S.set n (.dic (putA kvs k f))) else none) = some S' := h''
          by_cases cl : kvs.length < sizeLine
          · rw [if_pos cl] at h3'
            cases h3'
            obtain ⟨hb, ks, g1, g2⟩ := dic_w ra t hl
            subst hb
            have ey := kD_v hk re
            subst ey
            obtain rfl : ov = Value.ref a := ro
            have le : Le m m H (upd H a (.dK (putK ks k v))) := Le.writeO t g1 trivial
            refine d_setItem (by have := c.hu; omega) I (DPut.k g1 (by rw [← kvs_len g2]; exact cl)) ri rv fun s' I' => ⟨_, I', q _ le (ra.writeO t g1 trivial ⟨_, rfl, upd_same, kvs_put (kvs_mono g2 le) (rf.mono le)⟩)⟩
          · rw [if_neg cl] at h3'
            cases h3'
      | _ => cases h'
  | _ => cases h
end
end CC
namespace CC
open PySem PySem.Spec PyProof.Rows L2
def rBi (K : KW) (mg : Str → Option Value) (b : Bi) : List V → Hp → VK → Prop := fun vs H Q => ∃ W m S ds, RelA K mg m H S ∧ Rps K mg m H ds vs ∧ Post K mg W (Rp K mg) m H (biD b ds S) Q
section
variable {K : KW} {mg : Str → Option Value} {m : Mp} {H : Hp} {S : Sto} {Q : VK} {W : XK}
theorem post_opt {α β : Type} {rel : Mp → Hp → α → β → Prop} {Q : β → Hp → Prop} {o : Option α} (h : Post K mg W rel m H (R.opt o S) Q) : ∃ d, o = some d ∧ Post K mg W rel m H (.ok d S) Q := by
  cases o with
  | none => exact h.elim
  | some d => exact ⟨d, rfl, h⟩
theorem rps1 {d : D} {vs : List V} (h : Rps K mg m H [d] vs) : ∃ v, vs = [v] ∧ Rp K mg m H d v := by
  cases h with
  | cons h1 h2 => cases h2; exact ⟨_, rfl, h1⟩
theorem rps2 {d e : D} {vs : List V} (h : Rps K mg m H [d, e] vs) : ∃ v w, vs = [v, w] ∧ Rp K mg m H d v ∧ Rp K mg m H e w := by
  cases h with
  | cons h1 h2 =>
    obtain ⟨w, rfl, h3⟩ := rps1 h2
    exact ⟨_, _, rfl, h1, h3⟩
def lenS (x : D) (S : Sto) : Option Nat := match x with
  | .str z => if z.length ≤ sizeLine then some z.length else none
  | .tup ds => some ds.length
  | .fl ds => some ds.length
  | .loc n => (lstAt S n).map List.length
  | _ => none
theorem lenV_ok (ra : RelA K mg m H S) {d : D} {x : V} {n : Nat} (r : Rp K mg m H d x) (h : lenS d S = some n) : LenV K x H n := by
  cases r with
  | str z =>
    have h' : (if z.length ≤ sizeLine then some z.length else none) = some n := h
    by_cases c : z.length ≤ sizeLine
    · rw [if_pos c] at h'
      cases h'
      exact ⟨c, rfl⟩
    · rw [if_neg c] at h'
      cases h'
  | tup t hs =>
    cases h
    exact .inr ⟨_, t.t, hs.length.symm⟩
  | fl t hs =>
    cases h
    exact .inl ⟨_, .inl (.inr ⟨_, t⟩), hs.length.symm⟩
  | loc t =>
    rename_i k a _
    have h' : (lstAt S k).map List.length = some n := h
    cases q : lstAt S k with
    | none => rw [q] at h'; cases h'
    | some ds =>
      rw [q] at h'
      cases h'
      obtain ⟨vs, h1, h2⟩ := ra.seq t q
      exact .inl ⟨vs, h1, h2.length.symm⟩
  | _ => cases h
theorem lenD_cases {d : D} {S : Sto} {n : Nat} (h : lenD d S = some n) : lenS d S = some n ∨ (∃ k kvs, d = .loc k ∧ dicAt S k = some kvs ∧ n = kvs.length) ∨ (∃ ks ds, d = .fd ks ds ∧ n = (ks.zip ds).length) ∨ (∃ k kvs, d = .loc k ∧ dnAt S k = some kvs ∧ n = kvs.length) ∨ ∃ ks ds, d = .fm ks ds ∧ n = (ks.zip ds).length := by
  cases d with
  | fd ks ds =>
    have h' : some (ks.zip ds).length = some n := h
    cases h'
    exact .inr (.inr (.inl ⟨ks, ds, rfl, rfl⟩))
  | fm ks ds =>
    have h' : some (ks.zip ds).length = some n := h
    cases h'
    exact .inr (.inr (.inr (.inr ⟨ks, ds, rfl, rfl⟩)))
  | loc k =>
    have h' : lenL (lstAt S k) (dicAt S k) (dnAt S k) = some n := h
    show (lstAt S k).map List.length = some n ∨ _
    cases q : lstAt S k with
    | some ds => rw [q] at h'; exact .inl h'
    | none =>
      rw [q] at h'
      cases q2 : dicAt S k with
      | none =>
        rw [q2] at h'
        have h2 : (dnAt S k).map List.length = some n := h'
        cases q3 : dnAt S k with
        | none => rw [q3] at h2; cases h2
        | some kvs => rw [q3] at h2; cases h2; exact .inr (.inr (.inr (.inl ⟨k, kvs, rfl, q3, rfl⟩)))
      | some kvs => rw [q2] at h'; cases h'; exact .inr (.inl ⟨k, kvs, rfl, q2, rfl⟩)
  | _ => exact .inl h
theorem ints_at (ra : RelA K mg m H S) {d : D} {x : V} {ns : List Int} (t : Rp K mg m H d x) (h : (lstD S d).bind intsOf = some ns) : ∃ a, x = .ref a ∧ SqL K H a (ns.map V.int) := by
  cases q : lstD S d with
  | none => rw [q] at h; cases h
  | some ds =>
    rw [q] at h
    obtain ⟨a, vs, e, h1, h2⟩ := ra.seqD t q
    rw [h2.ints h] at h1
    exact ⟨a, e, h1⟩
theorem bls_at (ra : RelA K mg m H S) {d : D} {x : V} {ns : List Bool} (t : Rp K mg m H d x) (h : (lstD S d).bind blsOf = some ns) : ∃ a, x = .ref a ∧ SqL K H a (ns.map V.bl) := by
  cases q : lstD S d with
  | none => rw [q] at h; cases h
  | some ds =>
    rw [q] at h
    obtain ⟨a, vs, e, h1, h2⟩ := ra.seqD t q
    rw [h2.bls h] at h1
    exact ⟨a, e, h1⟩
theorem tyX_ok (ra : RelA K mg m H S) {d : D} {x : V} {a : String} (r : Rp K mg m H d x) (h : tyOfD d S = some a) : TyX K H x (.type a) := by
  cases r with
  | non => cases h; exact .base .non
  | bl b => cases h; exact .base (.bl b)
  | int i => cases h; exact .base (.int i)
  | str z => cases h; exact .base (.str z)
  | fl t hs => cases h; exact .base (.frz t)
  | fd t hk hs => cases h; exact .fDict t
  | tup t hs =>
    cases h
    rcases t with t | ⟨o, its, n, t, c, _⟩
    · exact .base (.tup t)
    · exact .kTuple t c
  | loc t =>
    rename_i k p _
    have h' : (match S[k]? with
      | some (.lst _) => some "list"
      | some (.dic _) => some "dict"
      | _ => none) = some a := h
    cases q : S[k]? with
    | none => rw [q] at h'; cases h'
    | some so =>
      rw [q] at h'
      cases so with
      | lst ds =>
        cases h'
        obtain ⟨vs, h1, _⟩ := ra.lst t q
        exact .base (.lst h1)
      | dic _ =>
        cases h'
        obtain ⟨ks, _, h1, _⟩ := ra.at_ k (p, _) _ t q
        exact .base (.dK h1)
      | _ => cases h'
  | _ => cases h
end
def someTy : List String := ["NoneType", "bool", "int", "str", "tuple", "list", "dict"]
theorem kit_some : ∀ a ∈ someTy, ∀ b ∈ ["int", "bool", "str", "tuple", "list", "dict"], kitB a b = some (subTy a b) := by decide +kernel
theorem tyOfD_some {d : D} {S : Sto} {a : String} (h : tyOfD d S = some a) : a ∈ someTy := by
  unfold tyOfD at h
  cases d with
  | loc k =>
    simp only at h
    cases q : S[k]? with
    | none => rw [q] at h; cases h
    | some so => rw [q] at h; cases so <;> first | (cases h; done) | (cases h; decide)
  | _ => first | (cases h; done) | (cases h; decide)
theorem known_mem {b : String} (h : knownTy b = true) : b ∈ ["int", "bool", "str", "tuple", "list", "dict"] := by
  unfold knownTy at h
  simp only [Bool.or_eq_true, beq_iff_eq] at h
  simp only [List.mem_cons, List.not_mem_nil, or_false]
  rcases h with ((((h | h) | h) | h) | h) | h <;> simp [h]
theorem kitOne_ok {K : PySem.W.Frag} {a b : String} (ha : a ∈ someTy) (hb : knownTy b = true) : PySem.W.kitOne K (.type a) (.type b) = some (subTy a b) := kit_ty (kit_some a ha b (known_mem hb))
theorem leastI_mem : ∀ (l : List Int) (m : Int), leastI m l ∈ m :: l
  | [], m => by simp [leastI]
  | x :: r, m => by
    unfold leastI
    have := leastI_mem r (if x < m then x else m)
    rcases List.mem_cons.mp this with h | h
    · rw [h]
      split <;> simp
    · exact List.mem_cons_of_mem _ (List.mem_cons_of_mem _ h)
theorem leastI_le : ∀ (l : List Int) (m : Int), ∀ y ∈ m :: l, leastI m l ≤ y
  | [], m, y, h => by simp at h; subst h; exact Int.le_refl _
  | x :: r, m, y, h => by
    unfold leastI
    have ih := leastI_le r (if x < m then x else m)
    have h0 := ih _ List.mem_cons_self
    rcases List.mem_cons.mp h with e | h
    · subst e
      refine Int.le_trans h0 ?_
      split <;> omega
    · rcases List.mem_cons.mp h with e | h
      · subst e
        refine Int.le_trans h0 ?_
        split <;> omega
      · exact ih y (List.mem_cons_of_mem _ h)
theorem mostI_mem : ∀ (l : List Int) (m : Int), mostI m l ∈ m :: l
  | [], m => by simp [mostI]
  | x :: r, m => by
    unfold mostI
    have := mostI_mem r (if m < x then x else m)
    rcases List.mem_cons.mp this with h | h
    · rw [h]
      split <;> simp
    · exact List.mem_cons_of_mem _ (List.mem_cons_of_mem _ h)
theorem mostI_le : ∀ (l : List Int) (m : Int), ∀ y ∈ m :: l, y ≤ mostI m l
  | [], m, y, h => by simp at h; subst h; exact Int.le_refl _
  | x :: r, m, y, h => by
    unfold mostI
    have ih := mostI_le r (if m < x then x else m)
    have h0 := ih _ List.mem_cons_self
    rcases List.mem_cons.mp h with e | h
    · subst e
      refine Int.le_trans ?_ h0
      split <;> omega
    · rcases List.mem_cons.mp h with e | h
      · subst e
        refine Int.le_trans ?_ h0
        split <;> omega
      · exact ih y (List.mem_cons_of_mem _ h)
section
variable {X : Cx}
theorem dn_len {pins : List (Addr × Obj)} {σ : L2.St} {H : Hp} {s : Shared} {m : Mp} {A : Around} {E : Value → Shared → Prop} {a : Addr} {xs : List (NestedKey × Addr × V)} {kvs : List (NestedKey × D)} (I : Inv X pins σ H s) (h : Rd H a (DnO X.w a xs)) (nk : NKvs X.kw X.mg m H kvs xs)
    {Q : Value → Shared → Prop} (q : ∀ t s', Inv X pins σ H s' → Q (.int ((kvs.length : Nat) : Int) t) s') : wpAny (model X.prog X.w) A (call (.builtin "len") [.ref a]) Q E s := by
  obtain ⟨z1, _, hsys, ys, xv, dd⟩ := dn_of I h nk.2.1
  have hl : xs.length = ys.length := Paired.length xv
  have hk : kvs.length = xs.length := by
    have e : (kvs.map (·.1)).length = (xs.map (·.1)).length := by rw [nk.1]
    rwa [List.length_map, List.length_map] at e
  refine call_len_dictH (knd := nestedKind X.prog X.w) hsys dd (by rw [← hl]; rw [sizeLine_eq] at z1; omega) ?_
  rw [← hl, ← hk]
  exact q _ _ (I.tok _)
theorem bi_len : CallR X (.builtin "len") (rBi X.kw X.mg .len) := by
  intro pins s σ H xs us Q I r ⟨W, m, S, ds, ra, rs, p⟩
  cases ds with
  | nil => exact p.elim
  | cons d ds =>
    cases ds with
    | cons _ _ => exact p.elim
    | nil =>
      obtain ⟨x, rfl, rx⟩ := rps1 rs
      obtain ⟨z, hz, p'⟩ := post_opt (show Post X.kw X.mg W (Rp X.kw X.mg) m H (R.opt ((lenD d S).map fun n => D.int n) S) Q from p)
      cases hl : lenD d S with
      | none => rw [hl] at hz; cases hz
      | some n =>
        rw [hl] at hz
        cases hz
        rcases lenD_cases hl with hl | ⟨k, kvs, rfl, hdc, rfl⟩ | ⟨ks, fs, rfl, rfl⟩ | ⟨k, kvs, rfl, hdc, rfl⟩ | ⟨ks, fs, rfl, rfl⟩
        · exact call_len pins s σ H _ us Q I r ⟨x, n, rfl, lenV_ok ra rx hl, p'.now ra (.int _)⟩
        · cases rx with
          | loc t =>
            rename_i a _
            obtain ⟨ks, g1, g2⟩ := dic_ro ra t hdc
            obtain ⟨u, rfl, ru⟩ := vals1 r
            obtain rfl : u = Value.ref a := ru
            exact d_len I g1 fun t' s' I' => ⟨.int kvs.length, H, I', ⟨t', by rw [kvs_len g2]⟩, p'.now ra (.int _)⟩
        · cases rx with
          | fd t hk hs =>
            rename_i a o kvs
            have g2 := kvs_zip hk hs
            obtain ⟨u, rfl, ru⟩ := vals1 r
            obtain rfl : u = Value.ref a := ru
            exact d_len I (.inr ⟨o, t⟩) fun t' s' I' => ⟨.int (ks.zip fs).length, H, I', ⟨t', by rw [kvs_len g2]⟩, p'.now ra (.int _)⟩
        · cases rx with
          | loc t =>
            rename_i a _
            obtain ⟨xs, g1, g2⟩ := dn_ro ra t hdc
            obtain ⟨u, rfl, ru⟩ := vals1 r
            obtain rfl : u = Value.ref a := ru
            exact dn_len I g1 g2 fun t' s' I' => ⟨.int kvs.length, H, I', ⟨t', rfl⟩, p'.now ra (.int _)⟩
        · cases rx with
          | fm t hk hq hs =>
            rename_i a o xs
            obtain ⟨u, rfl, ru⟩ := vals1 r
            obtain rfl : u = Value.ref a := ru
            exact dn_len I (.inr ⟨o, t⟩) (nkvs_zip hk hq hs) fun t' s' I' => ⟨.int (ks.zip fs).length, H, I', ⟨t', rfl⟩, p'.now ra (.int _)⟩
theorem bi_abs : CallR X (.builtin "abs") (rBi X.kw X.mg .abs) := by
  intro pins s σ H xs us Q I r ⟨W, m, S, ds, ra, rs, p⟩
  match ds, p, rs with
  | [.int i], p, rs =>
    obtain ⟨x, rfl, rx⟩ := rps1 rs
    cases rx
    exact call_abs pins s σ H _ us Q I r ⟨i, rfl, Post.now p ra (.int _)⟩
theorem int_tup {t : Addr} {ns : List Int} {its : List Value} {s : Shared} (r : Vals (ns.map V.int) its) (i : Nat) (v : Value) (h : its.toArray[i]? = some v) : ∃ k, v = .int (ns.getD i 0) k := by
  have hl := r.length
  rw [List.length_map] at hl
  have h' : its[i]? = some v := by simpa using h
  have hi : i < its.length := (List.getElem?_eq_some_iff.mp h').1
  have hn : i < ns.length := by omega
  have e1 : (ns.map V.int)[i]? = some (.int ns[i]) := by rw [List.getElem?_map, List.getElem?_eq_getElem hn]; rfl
  obtain ⟨u, hu, ru⟩ := Vals.get r e1
  rw [h'] at hu
  cases hu
  obtain ⟨k, e⟩ := ru
  exact ⟨k, by rw [e, List.getD_eq_getElem?_getD, List.getElem?_eq_getElem hn]; rfl⟩
theorem tup_best {X : Cx} {pins : List (Addr × Obj)} {σ : L2.St} {H : Hp} {s : Shared} {n' : Obj} {ns : List Int} {b : Nat} {v : Value} {h' : Heap} {tk : Nat} {Q : VK} (I : Inv X pins σ H s) (hb : b < ns.length) (hv : ∃ k, v = Value.int (ns.getD b 0) k)
    (hk : ∀ c o, c ∉ [s.heap.objs.size] → (s.heap.push n').get? c = some o → h'.get? c = some o) (q : ns.getD b 0 ∈ ns → Q (.int (ns.getD b 0)) H) : EP X pins σ Q v { s with heap := h', toks := tk } := by
  obtain ⟨k, rfl⟩ := hv
  refine ⟨.int _, H, I.kept (t' := tk) fun c u e => hk c u (fun hmem => ?_) (Heap.get?_push_of_some _ e), ⟨k, rfl⟩, q ?_⟩
  · have e1 : c = s.heap.objs.size := List.mem_singleton.mp hmem
    have e2 := Heap.lt_size e
    rw [e1] at e2
    exact absurd e2 (Nat.lt_irrefl _)
  · rw [List.getD_eq_getElem?_getD, List.getElem?_eq_getElem hb]
    exact List.getElem_mem hb
theorem getD_all {ns : List Int} {j : Int} (h : j ∈ ns) : ∃ i, i < ns.length ∧ ns.getD i 0 = j := by
  obtain ⟨i, hi, e⟩ := List.mem_iff_getElem.mp h
  exact ⟨i, hi, by rw [List.getD_eq_getElem?_getD, List.getElem?_eq_getElem hi, ← e]; rfl⟩
theorem cr_maxT (hc : X.calm = true) : CallR X (.builtin "max") (fun vs H Q => ∃ (a : Addr) (ns : List Int), vs = [V.ref a] ∧ SqT X.K H a (ns.map V.int) ∧ 0 < ns.length ∧ ∀ m, m ∈ ns → (∀ y, y ∈ ns → y ≤ m) → Q (.int m) H) := by
  intro pins s σ H vs us Q I r ⟨a, ns, e, hs, hne, q⟩
  subst e
  obtain ⟨its, rv, ⟨o, ho, hcl, n, hd⟩, _⟩ := I.tuple hs
  rw [Vals.ref1 r]
  have ht : s.heap.IsTuple a its.toArray := ⟨o, ho, hcl, n, hd⟩
  have hlt : a < s.heap.objs.size := Heap.lt_size ho
  have hl := rv.length
  rw [List.length_map] at hl
  refine call_max_walk (wpAny_pyIter_tuple ht ?_)
  refine ⟨_, _, _, _, _, _, _, rfl, Walks.tuple (A := X.A.in1) (I.ok.hd hc) s.heap.objs.size a (Nat.ne_of_lt hlt) its.toArray, ⟨⟨_, Heap.get?_push_size _ rfl, rfl, rfl⟩, ht.at fun o e => Heap.get?_push_of_some _ e⟩, fun b hb => ?_, by simpa using (by omega : 0 < its.length),
    CmpOf.ints_gt (fun i => ns.getD i 0) (fun i v h => int_tup (t := a) (s := s) rv i v h), fun v h' tk hP hk => ?_⟩
  · show b < (s.heap.push _).objs.size
    rw [Heap.size_push]
    rcases List.mem_cons.mp hb with e | hb
    · rw [e]
      exact Nat.lt_succ_self _
    · rw [List.mem_singleton.mp hb]
      exact Nat.lt_succ_of_lt hlt
  · obtain ⟨b1, b2⟩ := argBest_gt (fun i => ns.getD i 0) (its.toArray.size - 1)
    have hz : its.toArray.size = ns.length := by simpa using hl.symm
    show EP X pins σ Q v { s with heap := h', toks := tk }
    refine tup_best (s := s) (n' := { cls := .type "tuple_iterator", data := .fields #[.ref a, .int 0 0] }) I (by omega) (int_tup (t := a) (s := s) rv _ v hP) hk fun hm => q _ hm fun j hj => ?_
    obtain ⟨i, hi, e⟩ := getD_all hj
    rw [← e]
    exact b2 i (by omega)
theorem cr_minT (hc : X.calm = true) : CallR X (.builtin "min") (fun vs H Q => ∃ (a : Addr) (ns : List Int), vs = [V.ref a] ∧ SqT X.K H a (ns.map V.int) ∧ 0 < ns.length ∧ ∀ m, m ∈ ns → (∀ y, y ∈ ns → m ≤ y) → Q (.int m) H) := by
  intro pins s σ H vs us Q I r ⟨a, ns, e, hs, hne, q⟩
  subst e
  obtain ⟨its, rv, ⟨o, ho, hcl, n, hd⟩, _⟩ := I.tuple hs
  rw [Vals.ref1 r]
  have ht : s.heap.IsTuple a its.toArray := ⟨o, ho, hcl, n, hd⟩
  have hlt : a < s.heap.objs.size := Heap.lt_size ho
  have hl := rv.length
  rw [List.length_map] at hl
  refine call_min_walk (wpAny_pyIter_tuple ht ?_)
  refine ⟨_, _, _, _, _, _, _, rfl, Walks.tuple (A := X.A.in1) (I.ok.hd hc) s.heap.objs.size a (Nat.ne_of_lt hlt) its.toArray, ⟨⟨_, Heap.get?_push_size _ rfl, rfl, rfl⟩, ht.at fun o e => Heap.get?_push_of_some _ e⟩, fun b hb => ?_, by simpa using (by omega : 0 < its.length),
    CmpOf.ints_lt (fun i => ns.getD i 0) (fun i v h => int_tup (t := a) (s := s) rv i v h), fun v h' tk hP hk => ?_⟩
  · show b < (s.heap.push _).objs.size
    rw [Heap.size_push]
    rcases List.mem_cons.mp hb with e | hb
    · rw [e]
      exact Nat.lt_succ_self _
    · rw [List.mem_singleton.mp hb]
      exact Nat.lt_succ_of_lt hlt
  · obtain ⟨b1, b2⟩ := argBest_lt (fun i => ns.getD i 0) (its.toArray.size - 1)
    have hz : its.toArray.size = ns.length := by simpa using hl.symm
    show EP X pins σ Q v { s with heap := h', toks := tk }
    refine tup_best (s := s) (n' := { cls := .type "tuple_iterator", data := .fields #[.ref a, .int 0 0] }) I (by omega) (int_tup (t := a) (s := s) rv _ v hP) hk fun hm => q _ hm fun j hj => ?_
    obtain ⟨i, hi, e⟩ := getD_all hj
    rw [← e]
    exact b2 i (by omega)
theorem sq_ints {K : KW} {mg : Str → Option Value} {m : Mp} {H : Hp} {S : Sto} {d : D} {x : V} {ns : List Int} (ra : RelA K mg m H S) (rx : Rp K mg m H d x) (q : (sqD S d).bind intsOf = some ns) : ∃ a, x = .ref a ∧ (SqL K H a (ns.map V.int) ∨ SqT K H a (ns.map V.int)) := by
  by_cases ht : ∃ ds, d = .tup ds
  · obtain ⟨ds, rfl⟩ := ht
    cases rx with
    | tup h hs =>
      have e := hs.ints (show intsOf ds = some ns from q)
      subst e
      exact ⟨_, rfl, .inr h.t⟩
  · have e : sqD S d = lstD S d := by
      cases d with
      | tup ds => exact absurd ⟨ds, rfl⟩ ht
      | _ => rfl
    rw [e] at q
    obtain ⟨a, e, g⟩ := ints_at ra rx q
    exact ⟨a, e, .inl g⟩
theorem bi_max (hc : X.calm = true) : CallR X (.builtin "max") (rBi X.kw X.mg .max) := by
  intro pins s σ H xs us Q I r ⟨W, m, S, ds, ra, rs, p⟩
  match ds, p, rs with
  | [.int i, .int j], p, rs =>
    obtain ⟨x, y, rfl, rx, ry⟩ := rps2 rs
    cases rx
    cases ry
    exact call_max2 hc pins s σ H _ us Q I r ⟨i, j, rfl, Post.now p ra (.int _)⟩
  | [d], p, rs =>
    obtain ⟨x, rfl, rx⟩ := rps1 rs
    cases q : (sqD S d).bind intsOf with
    | none =>
      simp only [biD, q] at p
      exact p.elim
    | some ns =>
      cases ns with
      | nil =>
        simp only [biD, q] at p
        exact p.elim
      | cons z l =>
        simp only [biD, q] at p
        obtain ⟨a, rfl, g | g⟩ := sq_ints ra rx q
        · refine cr_max hc pins s σ H _ us Q I r ⟨_, z :: l, rfl, g, by simp, fun k hk hle => ?_⟩
          have e : k = mostI z l := Int.le_antisymm (mostI_le l z k hk) (hle _ (mostI_mem l z))
          rw [e]
          exact Post.now p ra (.int _)
        · refine cr_maxT hc pins s σ H _ us Q I r ⟨_, z :: l, rfl, g, by simp, fun k hk hle => ?_⟩
          have e : k = mostI z l := Int.le_antisymm (mostI_le l z k hk) (hle _ (mostI_mem l z))
          rw [e]
          exact Post.now p ra (.int _)
theorem bi_min (hc : X.calm = true) : CallR X (.builtin "min") (rBi X.kw X.mg .min) := by
  intro pins s σ H xs us Q I r ⟨W, m, S, ds, ra, rs, p⟩
  match ds, p, rs with
  | [.int i, .int j], p, rs =>
    obtain ⟨x, y, rfl, rx, ry⟩ := rps2 rs
    cases rx
    cases ry
    exact call_min2 hc pins s σ H _ us Q I r ⟨i, j, rfl, Post.now p ra (.int _)⟩
  | [d], p, rs =>
    obtain ⟨x, rfl, rx⟩ := rps1 rs
    cases q : (sqD S d).bind intsOf with
    | none =>
      simp only [biD, q] at p
      exact p.elim
    | some ns =>
      cases ns with
      | nil =>
        simp only [biD, q] at p
        exact p.elim
      | cons z l =>
        simp only [biD, q] at p
        obtain ⟨a, rfl, g | g⟩ := sq_ints ra rx q
        · refine cr_min hc pins s σ H _ us Q I r ⟨_, z :: l, rfl, g, by simp, fun k hk hle => ?_⟩
          have e : k = leastI z l := Int.le_antisymm (hle _ (leastI_mem l z)) (leastI_le l z k hk)
          rw [e]
          exact Post.now p ra (.int _)
        · refine cr_minT hc pins s σ H _ us Q I r ⟨_, z :: l, rfl, g, by simp, fun k hk hle => ?_⟩
          have e : k = leastI z l := Int.le_antisymm (hle _ (leastI_mem l z)) (leastI_le l z k hk)
          rw [e]
          exact Post.now p ra (.int _)
theorem bi_all (hc : X.calm = true) : CallR X (.builtin "all") (rBi X.kw X.mg .all) := by
  intro pins s σ H xs us Q I r ⟨W, m, S, ds, ra, rs, p⟩
  match ds, p, rs with
  | [d], p, rs =>
    obtain ⟨x, rfl, rx⟩ := rps1 rs
    cases q : (lstD S d).bind blsOf with
    | none =>
      simp only [biD, q] at p
      exact p.elim
    | some ns =>
      simp only [biD, q] at p
      obtain ⟨a, rfl, g⟩ := bls_at ra rx q
      exact cr_all hc pins s σ H _ us Q I r ⟨_, ns, rfl, g, Post.now p ra (.bl _)⟩
theorem biD_tuple {d : D} {S : Sto} : (∃ es, d = .tup es) ∨ biD .tuple [d] S = match lstD S d with
    | some ds => .ok (.tup ds) S
    | none => .bad := by
  cases d <;> first | exact .inl ⟨_, rfl⟩ | exact .inr rfl
theorem bi_tuple : CallR X (.type "tuple") (rBi X.kw X.mg .tuple) := by
  intro pins s σ H xs us Q I r ⟨W, m, S, ds, ra, rs, p⟩
  match ds, p, rs with
  | [], p, rs => exact p.elim
  | d :: e :: l, p, rs => cases d <;> exact p.elim
  | [d], p, rs =>
    obtain ⟨x, rfl, rx⟩ := rps1 rs
    rcases biD_tuple (d := d) (S := S) with ⟨es, rfl⟩ | hb
    · cases rx with
      | tup t hs => exact call_tuple_of pins s σ H _ us Q I r ⟨_, _, rfl, .inr ⟨t.t, Post.now p ra (.tup t hs)⟩⟩
    · rw [hb] at p
      cases q : lstD S d with
      | none =>
        simp only [q] at p
        exact p.elim
      | some es =>
        simp only [q] at p
        obtain ⟨a, vs, rfl, h1, h2⟩ := ra.seqD rx q
        exact call_tuple_of pins s σ H _ us Q I r ⟨_, vs, rfl, .inl ⟨h1, post_tup ra h2 p⟩⟩
theorem bi_isinst : CallR X (.builtin "isinstance") (rBi X.kw X.mg .isinst) := by
  intro pins s σ H xs us Q I r ⟨W, m, S, ds, ra, rs, p⟩
  match ds, p, rs with
  | [d, e], p, rs =>
    obtain ⟨x, y, rfl, rx, ry⟩ := rps2 rs
    obtain ⟨z, hz, p'⟩ := post_opt (show Post X.kw X.mg W (Rp X.kw X.mg) m H (R.opt ((isinst d e S).map D.bl) S) Q from p)
    have hz' : ((tyOfD d S).bind fun a => isT a e).map D.bl = some z := hz
    cases ht : tyOfD d S with
    | none => rw [ht] at hz'; cases hz'
    | some a =>
      rw [ht] at hz'
      have tx := tyX_ok ra rx ht
      have h1 : (isT a e).map D.bl = some z := hz'
      clear hz hz' p
      unfold isT at h1
      split at h1
      · rename_i b
        by_cases c : knownTy b = true
        · rw [if_pos c] at h1
          cases h1
          cases ry
          exact call_isi pins s σ H _ us Q I r ⟨x, .ty b, .type a, .type b, subTy a b, rfl, .ty b, tx, kitOne_ok (tyOfD_some ht) c, p'.now ra (.bl _)⟩
        · rw [if_neg c] at h1
          cases h1
      · rename_i b c
        by_cases k : (knownTy b && knownTy c) = true
        · rw [if_pos k] at h1
          cases h1
          obtain ⟨k1, k2⟩ := Bool.and_eq_true_iff.mp k
          cases ry with
          | @tup tp vs _ t hs =>
            obtain ⟨v1, v2, rfl, r1, r2⟩ := rps2 hs
            cases r1
            cases r2
            have kk : PySem.W.kitAny X.K (.type a) [.type b, .type c] = some (subTy a b || subTy a c) := by
              refine kitAny_cons (kitOne_ok (tyOfD_some ht) k1) (fun hb => ?_) (fun hb => by rw [hb]; rfl)
              rw [hb, Bool.false_or]
              exact kitAny_cons (kitOne_ok (tyOfD_some ht) k2) (fun hc => by rw [hc]; exact kitAny_nil) (fun hc => hc)
            rcases t with t | ⟨o, its, n, t, c1, c2, c3, c4⟩
            · exact call_isiT pins s σ H _ us Q I r ⟨x, tp, [.ty b, .ty c], .type a, [.type b, .type c], _, rfl, t, .cons (.ty b) (.cons (.ty c) .nil), tx, kk, p'.now ra (.bl _)⟩
            · have ei : its = #[.type b, .type c] := by
                obtain ⟨w1, w2, e1, q1, q2⟩ := vals2 c4
                have q1' : w1 = .type b := q1
                have q2' : w2 = .type c := q2
                subst q1'
                subst q2'
                rw [← Array.toArray_toList (xs := its), e1]
              obtain ⟨oc, od, oda, osl⟩ := o
              have e1 : oc = .type "tuple" := c1
              have e2 : oda = .seq its n := c2
              subst e1
              subst e2
              subst ei
              exact call_isiK pins s σ H _ us Q I r ⟨x, tp, od, [.type b, .type c], n, osl, .type a, _, rfl, t, tx, kk, p'.now ra (.bl _)⟩
        · rw [if_neg k] at h1
          cases h1
      · cases h1
end
end CC
namespace CC
open PySem PySem.Spec PyProof.Rows L2
namespace RT
end RT
namespace SS
section
variable {prog : Program} {w : World} {A : Around} {E : Value → Shared → Prop} {s : Shared}
theorem setItem_list_cut {l sl b : Addr} {items new : Array Value} {vl vu : Value} {lo hi : Option Int} {Q : Unit → Shared → Prop} (hl : s.heap.IsList l items) (hb : s.heap.IsList b new) (hlb : l ≠ b)
    (hs : s.heap.IsSliceOf sl vl vu .none) (pl : IsPart vl lo) (pu : IsPart vu hi) (hsz : items.size + new.size ≤ sizeLine)
    (hQ : Q () { s with heap := s.heap.update l (Obj.mapSeq (fun xs => xs.extract 0 (HT.sIx items.size 0 lo) ++ new ++ xs.extract (max (HT.sIx items.size 0 lo) (HT.sIx items.size items.size hi)) xs.size)) }) :
    wpAny (model prog w) A (setItem (.ref l) (.ref sl) (.ref b)) Q E s := by
  obtain ⟨o, ho, hc, ne, hd⟩ := id hl
  obtain ⟨ob, hob, hcb, neb, hdb⟩ := id hb
  obtain ⟨os, hos, hcs, hds⟩ := id hs
  have hTs : s.TypeIs (.ref sl) "slice" := ⟨os, hos, hcs⟩
  obtain ⟨e1, e2, e3⟩ := L2.slice_bounds lo hi items.size
  unfold setItem
  try with_reducible refine wpAny_holding ?_
  first | refine wpAny_bind (wpAny_pure ?_) | skip
  refine wpAny_bind (wpAny_sequenceKey hl.typeIs (by decide) ?_)
  refine wpAny_bind (wpAny_callSpecial?_slot (name := Str.ofString "__setitem__") hl.typeIs slot_list_setitem
    (wpAny_call_entry slot_list_setitem hl.typeIs entry_list_setitem ?_ (args_list_setitem _ _ _)))
  show wpAny _ _ (Builtin.List.listSubscript? (.ref sl) >>= _) _ _ s
  refine wpAny_bind ?_
  unfold Builtin.List.listSubscript?
  refine wpAny_bind (wpAny_specialOf hTs slice_no_index ?_)
  simp only [Option.isNone_none, if_true]
  refine wpAny_pure ?_
  show wpAny _ _ (typeOf (.ref sl) >>= _) _ _ s
  refine wpAny_bind (wpAny_typeOf hTs ?_)
  rw [if_neg (by decide)]
  rw [listSliceParts_eq]
  refine wpAny_bind (wpAny_bind (wpAny_field hos hds (x := .none) rfl (wpAny_bind (wpAny_listPart .none ?_))))
  rw [if_neg (show ¬ ((rawPart none == rawInt 0) = true) from Bool.false_ne_true)]
  refine wpAny_bind (wpAny_field hos hds (x := vl) rfl (wpAny_bind (wpAny_listPart pl ?_)))
  refine wpAny_bind (wpAny_field hos hds (x := vu) rfl (wpAny_bind (wpAny_listPart pu (wpAny_pure ?_))))
  have hij : sliceBounds lo hi none items.size = (((HT.sIx items.size 0 lo : Nat) : Int), ((HT.sIx items.size items.size hi : Nat) : Int), 1) := by
    rw [← e1, ← e2, ← e3]
  have hi1 : HT.sIx items.size 0 lo ≤ items.size := HT.sIx_le _ _ (Nat.zero_le _) lo
  generalize HT.sIx items.size 0 lo = i at hij hQ hi1
  generalize HT.sIx items.size items.size hi = j at hij hQ
  have hne : ¬ (Builtin.List.listSameRef (Value.ref l) (Value.ref b) = true) := by
    show ¬ ((l == b) = true)
    simpa using hlb
  rw [if_neg hne]
  refine wpAny_bind (m := Builtin.List.listAllItems (.ref b) _) ?_
  unfold Builtin.List.listAllItems
  refine wpAny_bind (wpAny_typeOf hb.typeIs ?_)
  rw [if_pos (by decide)]
  refine wpAny_bind (wpAny_seqItems hob hdb (wpAny_pure ?_))
  refine wpAny_bind (m := Builtin.List.listItems (.ref l)) (wpAny_listItems ho hd ?_)
  refine wpAny_bind (wpAny_of_eq (sliceIndices_raw lo hi none items.size (by simp)) ?_)
  rw [hij]
  have e1 : ((i : Nat) : Int).toNat = i := by simp
  have e2 : (max ((i : Nat) : Int) ((j : Nat) : Int)).toNat = max i j := by omega
  have hlong : ¬ (Builtin.List.listTooLong (items.size + new.size) = true) := by
    show ¬ (decide (items.size + new.size > sizeLine) = true)
    simp
    omega
  show wpAny _ _ (if ((1 : Int) == 1) = true then _ else _) _ _ s
  rw [if_pos (by decide)]
  refine wpAny_bind (wpAny_rule ?_)
  rw [if_neg hlong]
  simp only [e1, e2]
  refine wpAny_bind (listUpdate_at ho hd ?_ (by omega) (by simp only [Array.size_append, Array.size_extract]; omega))
  refine wpAny_bind (wpAny_letGo ?_)
  first
    | exact wpAny_bind (wpAny_pure (wpAny_pure ⟨.none, rfl, wpAny_pure hQ⟩))
    | exact wpAny_pure ⟨.none, rfl, wpAny_pure hQ⟩
end
theorem mapSeq_cut (its new : List Value) (n i j : Nat) : ∃ n', Obj.mapSeq (fun xs => xs.extract 0 i ++ new.toArray ++ xs.extract (max i j) xs.size) { cls := .type "list", data := .seq its.toArray n } = { cls := .type "list", data := .seq (its.take i ++ new ++ its.drop (max i j)).toArray n' } := by
  have e : its.toArray.extract 0 i ++ new.toArray ++ its.toArray.extract (max i j) its.toArray.size = (its.take i ++ new ++ its.drop (max i j)).toArray := by
    simp only [List.extract_toArray, List.append_toArray, List.size_toArray, List.extract_eq_take_drop, List.drop_zero, Nat.sub_zero]
    congr 2
    exact List.take_of_length_le (by simp)
  unfold Obj.mapSeq
  simp only [e]
  exact ⟨_, rfl⟩
section
variable {X : Cx} {pos p2 : Pos}
def gSsl (K : PySem.W.Frag) (to : TE) (tl th : TO) : TG := fun v σ H Q => to σ H fun x H1 => tl σ H1 fun l H2 => th σ H2 fun u H3 => ∃ a xs b ys, x = .ref a ∧ H3 a = some (.lst xs) ∧ v = .ref b ∧ H3 b = some (.lst ys) ∧ a ≠ b ∧ xs.length + ys.length ≤ sizeLine ∧
  Q σ (upd H3 a (.lst (xs.take (HT.sIx xs.length 0 l) ++ ys ++ xs.drop (max (HT.sIx xs.length 0 l) (HT.sIx xs.length xs.length u)))))
theorem pg_ssl {o : Expr} {lo hi : Option Expr} {to : TE} {tl th : TO} (ho : PE X o to) (hl : PO X lo tl) (hh : PO X hi th)
    (ha : ∀ v, assign (.Subscript o (.Slice lo hi none p2) pos) X.env v = (do
      let ov ← holding [v] (eval o X.env)
      let iv ← holding [v, ov] (eval (.Slice lo hi none p2) X.env)
      standAt pos
      holding [v, ov, iv] (setItem ov iv v)
      release [iv, v, ov] []) := by intro _; rfl) : PG X (.Subscript o (.Slice lo hi none p2) pos) (gSsl X.K to tl th) := by
  refine ⟨fun pins s σ H v u Q I r h => ?_⟩
  rw [ha]
  refine wpAny_bind (wpAny_holding (thn (ho.run pins s σ H _ I h) fun ov s1 ⟨x, H1, I1, r1, q1⟩ => ?_))
  refine wpAny_bind (wpAny_holding (wpAny_Slice (thn (hl.run pins s1 σ H1 _ I1 q1) fun vl s2 ⟨l, H2, I2, pl, q2⟩ => thn (hh.run pins s2 σ H2 _ I2 q2) fun vu s3 ⟨uu, H3, I3, pu, q3⟩ => ?_)))
  rw [evalPart_none]
  refine wpAny_pure ?_
  have I4 : Inv X pins σ H3 { s3 with heap := s3.heap.push { cls := .type "slice", data := .fields #[vl, vu, .none] } } := I3.kept (t' := s3.toks) fun b ob q => Heap.get?_push_of_some _ q
  refine wpAny_bind (wpAny_standAt (wpAny_bind (wpAny_holding ?_)))
  obtain ⟨a, xs, b, ys, rfl, hx, rfl, hy, hab, hz, q⟩ := q3
  cases r1
  cases r
  obtain ⟨its, n, rx, hox, zx⟩ := I4.lst hx
  obtain ⟨jts, n2, ry, hoy, zy⟩ := I4.lst hy
  have lx := rx.length
  have ly := ry.length
  refine setItem_list_cut (items := its.toArray) (new := jts.toArray) ⟨_, hox, rfl, _, rfl⟩ ⟨_, hoy, rfl, _, rfl⟩ hab (Heap.IsSliceOf.new ..) pl pu (by simp only [List.size_toArray]; omega) ?_
  have e : its.toArray.size = xs.length := by rw [List.size_toArray]; exact lx.symm
  rw [e]
  have hi1 : HT.sIx xs.length 0 l ≤ xs.length := HT.sIx_le _ _ (Nat.zero_le _) l
  generalize HT.sIx xs.length 0 l = i at q hi1 ⊢
  generalize HT.sIx xs.length xs.length uu = j at q ⊢
  have rr : Vals (xs.take i ++ ys ++ xs.drop (max i j)) (its.take i ++ jts ++ its.drop (max i j)) := ((rx.take i).append ry).append (rx.drop (max i j))
  obtain ⟨n', hm⟩ := mapSeq_cut its jts n i j
  exact wpAny_release ⟨σ, _, I4.lstUpd hx hox hm rr (by simp only [List.length_append, List.length_take, List.length_drop]; omega) s3.toks, q⟩
end
end SS
def tG {α β : Type} (K : KW) (mg : Str → Option Value) (W : WX) (rel : Mp → Hp → α → β → Prop) (f : Env → Sto → R α) : L2.St → Hp → (β → Hp → Prop) → Prop := fun σ H Q =>
  ∃ m ρ S, RelA K mg m H S ∧ RelE K mg m H σ ρ ∧ Post K mg (fun c d H' => W c d σ H') rel m H (f ρ S) Q
abbrev relEq {α : Type} : Mp → Hp → α → α → Prop := fun _ _ a b => a = b
abbrev tD (X : Cx) (C : CallSem) (G : Nat → Option D) (W : WX) (e : Xp) : TE   := tG X.kw X.mg W (Rp X.kw X.mg) (ev C G e)
abbrev tDT (X : Cx) (C : CallSem) (G : Nat → Option D) (W : WX) (e : Xp) : TT   := tG X.kw X.mg W relEq (fun ρ S => asT (ev C G e ρ S))
abbrev tDs (X : Cx) (C : CallSem) (G : Nat → Option D) (W : WX) (e : Xp) : TA   := tG X.kw X.mg W (Rps X.kw X.mg) (evs C G e)
abbrev tDp (X : Cx) (C : CallSem) (G : Nat → Option D) (W : WX) (e : Xp) : TO   := tG X.kw X.mg W relEq (evp C G e)
def SrcOk (K : KW) (mg : Str → Option Value) (m0 : Mp) (H0 : Hp) (src : Src) (J : It) : Prop :=
  ∀ m H S i, Lt m0 m H0 H → RelA K mg m H S → (src.get i S = some none → J.stop i H) ∧
    ∀ d, src.get i S = some (some d) → J.go i H ∧ ∀ x H', J.yld i H x H' → Le m m H H' ∧ RelA K mg m H' S ∧ Rp K mg m H' d x
abbrev tDi (X : Cx) (C : CallSem) (G : Nat → Option D) (W : WX) (e : Xp) : TI   := tG X.kw X.mg W (SrcOk X.kw X.mg) (evi C G e)
def GOk (K : KW) (mg : Str → Option Value) (gn : List Str) (G : Nat → Option D) : Prop := ∀ i x d, gn[i]? = some x → G i = some d → ∃ u v, mg x = some u ∧ RelV v u ∧ ∀ m H, Rp K mg m H d v
section
variable {X : Cx} {C : CallSem} {G : Nat → Option D} {W : WX} {a b c e : Expr} {A B D' : Xp} {pos : Pos}
theorem de_var {i : Nat} (h : PE X e (tVar i)) : PE X e (tD X C G W (.var i)) := PE_imp h fun σ H Q ⟨m, ρ, S, ra, re, p⟩ => by
  obtain ⟨d, hd, p'⟩ := post_opt (show Post X.kw X.mg (fun c d H' => W c d σ H') (Rp X.kw X.mg) m H (R.opt (ρ[i]?.bind id) S) Q from p)
  cases q : ρ[i]? with
  | none => rw [q] at hd; cases hd
  | some o =>
    rw [q] at hd
    have ho : o = some d := hd
    subst ho
    obtain ⟨v, h1, h2⟩ := re.at_ i d q
    exact ⟨v, h1, p'.now ra h2⟩
theorem de_glo {x : Str} {i : Nat} {gn : List Str} (gok : GOk X.kw X.mg gn G) (hx : gn[i]? = some x) (hg : Gl X x) (hd : (x == ("__debug__" : Str)) = false := by decide) : PE X (.Name x pos) (tD X C G W (.glo i)) := by
  cases q : G i with
  | none =>
    refine PE_never fun σ H Q ⟨m, ρ, S, ra, re, p⟩ => ?_
    have p' : Post X.kw X.mg (fun c d H' => W c d σ H') (Rp X.kw X.mg) m H (R.opt (G i) S) Q := p
    rw [q] at p'
    exact p'
  | some d =>
    obtain ⟨u, v, h1, h2, h3⟩ := gok i x d hx q
    refine PE_imp (pe_glob hg h1 h2 hd) fun σ H Q ⟨m, ρ, S, ra, re, p⟩ => ?_
    have p' : Post X.kw X.mg (fun c d H' => W c d σ H') (Rp X.kw X.mg) m H (R.opt (G i) S) Q := p
    rw [q] at p'
    exact p'.now ra (h3 m H)
theorem de_non {j} : PE X (.Constant .none j pos) (tD X C G W .non) := PE_imp pe_non fun σ H Q ⟨m, ρ, S, ra, re, p⟩ => p.now ra .non
theorem de_bl {v j} : PE X (.Constant (.bool v) j pos) (tD X C G W (.bl v)) := PE_imp pe_bl fun σ H Q ⟨m, ρ, S, ra, re, p⟩ => p.now ra (.bl v)
theorem de_int {v j} : PE X (.Constant (.int v) j pos) (tD X C G W (.int v)) := PE_imp pe_int fun σ H Q ⟨m, ρ, S, ra, re, p⟩ => p.now ra (.int v)
theorem de_str {v j} : PE X (.Constant (.str v) j pos) (tD X C G W (.str v)) := PE_imp pe_str fun σ H Q ⟨m, ρ, S, ra, re, p⟩ => p.now ra (.str v)
theorem de_ty {x : Str} {t : String} {cb : Bool} (cx : Ctx cb X) (hx : x ∈ bnames) (hg : Gl X x) (hv : bootBuiltins x = some (.type t)) (hn : x ≠ "__name__" := by decide) (hd : (x == ("__debug__" : Str)) = false := by decide) :
    PE X (.Name x pos) (tD X C G W (.tyc t)) := PE_imp (pe_bltn (v := .ty t) hg (cx.nob x hx) hv rfl hn hd) fun σ H Q ⟨m, ρ, S, ra, re, p⟩ => p.now ra (.ty t)
theorem de_bin {op : Operator} (ha : PE X a (tD X C G W A)) (hb : PE X b (tD X C G W B)) : PE X (.BinOp a op b pos) (tD X C G W (.bin op A B)) :=
  PE_imp (pe_op (op_bin op) ha hb) fun σ H Q ⟨m, ρ, S, ra, re, p⟩ => ⟨m, ρ, S, ra, re, Post.imp (Post.bind p) fun x H1 ⟨m1, d, S1, l1, ra1, r1, p1⟩ =>
    ⟨m1, ρ, S1, ra1, re.mono l1, Post.imp (Post.bind p1) fun y H2 ⟨m2, d2, S2, l2, ra2, r2, p2⟩ => ⟨_, m2, S2, d, d2, ra2, r1.mono l2, r2, p2⟩⟩⟩
theorem asI_rp {K : KW} {mg : Str → Option Value} {V' : XK} {m : Mp} {H : Hp} {r : R D} {f : Int → Sto → R α} {Q : β → Hp → Prop} {rel : Mp → Hp → α → β → Prop} (h : Post K mg V' rel m H ((asI r).bind f) Q) :
    Post K mg V' (Rp K mg) m H r (fun v H1 => ∃ m1 i S1, v = .int i ∧ Le m m1 H H1 ∧ RelA K mg m1 H1 S1 ∧ Post K mg V' rel m1 H1 (f i S1) Q) := by
  cases r with
  | bad => exact h
  | exc c p S => exact h
  | ok d S =>
    cases d with
    | int i =>
      intro m' H' v l ra rp
      cases rp
      exact ⟨m', i, S, rfl, l, ra, Post.move l h⟩
    | _ => exact h.elim
theorem de_neg (ha : PE X a (tD X C G W A)) : PE X (.UnaryOp .USub a pos) (tD X C G W (.neg A)) :=
  PE_imp (pe_un un_neg ha) fun σ H Q ⟨m, ρ, S, ra, re, p⟩ => ⟨m, ρ, S, ra, re, Post.imp (asI_rp p) fun x H1 ⟨m1, i, S1, e1, l1, ra1, p1⟩ => ⟨i, e1, p1.now ra1 (.int _)⟩⟩
theorem asT_rp {K : KW} {mg : Str → Option Value} {V' : XK} {m : Mp} {H : Hp} {r : R D} {Q : Bool → Hp → Prop} (h : Post K mg V' relEq m H (asT r) Q) :
    Post K mg V' (Rp K mg) m H r (fun v H1 => ∃ k, TruV K v H1 k ∧ Q k H1) := by
  cases r with
  | bad => exact h
  | exc c p S => exact h
  | ok d S =>
    intro m' H' v l ra rp
    obtain ⟨k, hk, p⟩ := post_opt (show Post K mg V' relEq m H (R.opt (truth d S) S) Q from h)
    exact ⟨k, tru_v ra rp hk, p m' H' k l ra rfl⟩
theorem asT_bind {K : KW} {mg : Str → Option Value} {V' : XK} {m : Mp} {H : Hp} {r : R D} {f : Bool → Sto → R α} {Q : β → Hp → Prop} {rel : Mp → Hp → α → β → Prop} (h : Post K mg V' rel m H ((asT r).bind f) Q) :
    Post K mg V' (Rp K mg) m H r (fun v H1 => ∃ m1 k S1, TruV K v H1 k ∧ Le m m1 H H1 ∧ RelA K mg m1 H1 S1 ∧ Post K mg V' rel m1 H1 (f k S1) Q) := by
  cases r with
  | bad => exact h
  | exc c p S => exact h
  | ok d S =>
    intro m' H' v l ra rp
    cases ht : truth d S with
    | none =>
      have h' : Post K mg V' rel m H ((R.opt (truth d S) S).bind f) Q := h
      rw [ht] at h'
      exact h'.elim
    | some k =>
      have h' : Post K mg V' rel m H ((R.opt (truth d S) S).bind f) Q := h
      rw [ht] at h'
      exact ⟨m', k, S, tru_v ra rp ht, l, ra, Post.move l h'⟩
theorem de_nt (ha : PE X a (tD X C G W A)) : PE X (.UnaryOp .Not a pos) (tD X C G W (.nt A)) :=
  PE_imp (pe_notT ha) fun σ H Q ⟨m, ρ, S, ra, re, p⟩ => ⟨m, ρ, S, ra, re, Post.imp (asT_bind p) fun x H1 ⟨m1, k, S1, e1, l1, ra1, p1⟩ => ⟨k, e1, p1.now ra1 (.bl _)⟩⟩
theorem de_and {rest : List Expr} (ha : PE X a (tD X C G W A)) (hb : PE X (.BoolOp .And (b :: rest) pos) (tD X C G W B)) : PE X (.BoolOp .And (a :: b :: rest) pos) (tD X C G W (.and A B)) :=
  PE_imp (pe_andT ha hb) fun σ H Q ⟨m, ρ, S, ra, re, p⟩ => ⟨m, ρ, S, ra, re, Post.imp (Post.bind p) fun x H1 ⟨m1, d, S1, l1, ra1, r1, p1⟩ => by
    cases ht : truth d S1 with
    | none => simp only [ht] at p1; exact p1.elim
    | some k =>
      refine ⟨k, tru_v ra1 r1 ht, ?_⟩
      cases k with
      | true => simp only [ht] at p1; exact ⟨m1, ρ, S1, ra1, re.mono l1, p1⟩
      | false => simp only [ht] at p1; exact p1.now ra1 r1⟩
theorem de_cmp {op : CmpOp} {cb : Bool} (cx : Ctx cb X) (ha : PE X a (tD X C G W A)) (hb : PE X b (tD X C G W B)) (hm : behindInMarks op b = false := by rfl) : PE X (.Compare a [op] [b] pos) (tD X C G W (.cmp op A B)) :=
  PE_imp (pe_cmpR (op_cmp cx op) ha hb hm) fun σ H Q ⟨m, ρ, S, ra, re, p⟩ => ⟨m, ρ, S, ra, re, Post.imp (Post.bind p) fun x H1 ⟨m1, d, S1, l1, ra1, r1, p1⟩ =>
    ⟨m1, ρ, S1, ra1, re.mono l1, Post.imp (Post.bind p1) fun y H2 ⟨m2, d2, S2, l2, ra2, r2, p2⟩ => by
      obtain ⟨z, hz, p3⟩ := post_opt p2
      cases hc : cmpD op d d2 S2 with
      | none => rw [hc] at hz; cases hz
      | some k =>
        rw [hc] at hz
        cases hz
        exact ⟨m2, S2, d, d2, k, ra2, r1.mono l2, r2, hc, p3.now ra2 (.bl _)⟩⟩⟩
theorem dt_tru (ha : PE X a (tD X C G W A)) (he : ∀ whole, isTrue a X.env whole = (do let v ← whole; standAt a.pos; holding [v] (truthy v)) := by intro _; rfl) : PT X a (tDT X C G W A) :=
  PT_imp (pt_truth ha he) fun σ H Q ⟨m, ρ, S, ra, re, p⟩ => ⟨m, ρ, S, ra, re, asT_rp p⟩
theorem asT_nt (r : R D) : asT ((asT r).bind fun b S1 => .ok (.bl (!b)) S1) = (asT r).bind fun b S1 => .ok (!b) S1 := by
  cases asT r <;> rfl
theorem dt_nt (ha : PT X a (tDT X C G W A)) : PT X (.UnaryOp .Not a pos) (tDT X C G W (.nt A)) :=
  PT_imp (pt_not ha) fun σ H Q ⟨m, ρ, S, ra, re, p⟩ => by
    have p' : Post X.kw X.mg (fun c d H' => W c d σ H') relEq m H (asT ((asT (ev C G A ρ S)).bind fun b S1 => .ok (.bl (!b)) S1)) Q := p
    rw [asT_nt] at p'
    exact ⟨m, ρ, S, ra, re, Post.imp (Post.bind (rel1 := relEq) p') fun k H1 ⟨m1, d, S1, l1, ra1, r1, p1⟩ => by
      have r1' : d = k := r1
      subst r1'
      exact p1.now ra1 rfl⟩
theorem asT_and {r : R D} {f : Sto → R D} : asT (r.bind fun x S1 => match truth x S1 with
    | some true => f S1
    | some false => .ok x S1
    | none => .bad) = (asT r).bind fun b S1 => if b then asT (f S1) else .ok false S1 := by
  cases r with
  | bad => rfl
  | exc c p S => rfl
  | ok x S =>
    show asT (match truth x S with | some true => f S | some false => .ok x S | none => .bad) = (R.opt (truth x S) S).bind fun b S1 => if b then asT (f S1) else .ok false S1
    cases h : truth x S with
    | none => rfl
    | some k =>
      cases k with
      | true => rfl
      | false =>
        show R.opt (truth x S) S = _
        rw [h]
        rfl
theorem asT_or {r : R D} {f : Sto → R D} : asT (r.bind fun x S1 => match truth x S1 with
    | some true => .ok x S1
    | some false => f S1
    | none => .bad) = (asT r).bind fun b S1 => if b then .ok true S1 else asT (f S1) := by
  cases r with
  | bad => rfl
  | exc c p S => rfl
  | ok x S =>
    show asT (match truth x S with | some true => .ok x S | some false => f S | none => .bad) = (R.opt (truth x S) S).bind fun b S1 => if b then .ok true S1 else asT (f S1)
    cases h : truth x S with
    | none => rfl
    | some k =>
      cases k with
      | false => rfl
      | true =>
        show R.opt (truth x S) S = _
        rw [h]
        rfl
theorem dw_one_and (ha : PT X a (tDT X C G W A)) : PW X (.BoolOp .And [a] pos) (tDT X C G W A) := pw_and1 ha
theorem dw_one_or (ha : PT X a (tDT X C G W A)) : PW X (.BoolOp .Or [a] pos) (tDT X C G W A) := pw_or1 ha
theorem dw_and {rest : List Expr} (ha : PT X a (tDT X C G W A)) (hb : PW X (.BoolOp .And (b :: rest) pos) (tDT X C G W B)) : PW X (.BoolOp .And (a :: b :: rest) pos) (tDT X C G W (.and A B)) :=
  PW_imp (pw_and ha hb) fun σ H Q ⟨m, ρ, S, ra, re, p⟩ => by
    have p' : Post X.kw X.mg (fun c d H' => W c d σ H') relEq m H (asT ((ev C G A ρ S).bind fun x S1 => match truth x S1 with
      | some true => ev C G B ρ S1
      | some false => .ok x S1
      | none => .bad)) Q := p
    rw [asT_and] at p'
    exact ⟨m, ρ, S, ra, re, Post.imp (Post.bind (rel1 := relEq) p') fun k H1 ⟨m1, d, S1, l1, ra1, r1, p1⟩ => by
      have r1' : d = k := r1
      subst r1'
      cases d with
      | true => exact ⟨m1, ρ, S1, ra1, re.mono l1, p1⟩
      | false => exact p1.now ra1 rfl⟩
theorem dw_or {rest : List Expr} (ha : PT X a (tDT X C G W A)) (hb : PW X (.BoolOp .Or (b :: rest) pos) (tDT X C G W B)) : PW X (.BoolOp .Or (a :: b :: rest) pos) (tDT X C G W (.or A B)) :=
  PW_imp (pw_or ha hb) fun σ H Q ⟨m, ρ, S, ra, re, p⟩ => by
    have p' : Post X.kw X.mg (fun c d H' => W c d σ H') relEq m H (asT ((ev C G A ρ S).bind fun x S1 => match truth x S1 with
      | some true => .ok x S1
      | some false => ev C G B ρ S1
      | none => .bad)) Q := p
    rw [asT_or] at p'
    exact ⟨m, ρ, S, ra, re, Post.imp (Post.bind (rel1 := relEq) p') fun k H1 ⟨m1, d, S1, l1, ra1, r1, p1⟩ => by
      have r1' : d = k := r1
      subst r1'
      cases d with
      | false => exact ⟨m1, ρ, S1, ra1, re.mono l1, p1⟩
      | true => exact p1.now ra1 rfl⟩
theorem dt_cmp {op : CmpOp} {cb : Bool} (cx : Ctx cb X) (ha : PE X a (tD X C G W A)) (hb : PE X b (tD X C G W B)) (hm : behindInMarks op b = false := by rfl) : PT X (.Compare a [op] [b] pos) (tDT X C G W (.cmp op A B)) :=
  PT_imp (pt_cmpR (op_cmp cx op) ha hb hm) fun σ H Q ⟨m, ρ, S, ra, re, p⟩ => ⟨m, ρ, S, ra, re, by
    have p0 : Post X.kw X.mg (fun c d H' => W c d σ H') relEq m H (((ev C G A ρ S).bind fun x S1 => (ev C G B ρ S1).bind fun y S2 => R.opt ((cmpD op x y S2).map D.bl) S2).bind fun x S => R.opt (truth x S) S) Q := p
    have assoc : (((ev C G A ρ S).bind fun x S1 => (ev C G B ρ S1).bind fun y S2 => R.opt ((cmpD op x y S2).map D.bl) S2).bind fun x S => R.opt (truth x S) S) =
        (ev C G A ρ S).bind fun x S1 => (ev C G B ρ S1).bind fun y S2 => R.opt (cmpD op x y S2) S2 := by
      cases ev C G A ρ S with
      | bad => rfl
      | exc c p S => rfl
      | ok x S1 =>
        show ((ev C G B ρ S1).bind fun y S2 => R.opt ((cmpD op x y S2).map D.bl) S2).bind (fun x S => R.opt (truth x S) S) = (ev C G B ρ S1).bind fun y S2 => R.opt (cmpD op x y S2) S2
        cases ev C G B ρ S1 with
        | bad => rfl
        | exc c p S => rfl
        | ok y S2 =>
          show (R.opt ((cmpD op x y S2).map D.bl) S2).bind (fun x S => R.opt (truth x S) S) = R.opt (cmpD op x y S2) S2
          cases cmpD op x y S2 <;> rfl
    rw [assoc] at p0
    exact Post.imp (Post.bind p0) fun x H1 ⟨m1, d, S1, l1, ra1, r1, p1⟩ => ⟨m1, ρ, S1, ra1, re.mono l1, Post.imp (Post.bind p1) fun y H2 ⟨m2, d2, S2, l2, ra2, r2, p2⟩ => by
      obtain ⟨k, hk, p3⟩ := post_opt p2
      exact ⟨m2, S2, d, d2, k, ra2, r1.mono l2, r2, hk, k, rfl, p3.now ra2 rfl⟩⟩⟩
theorem de_ife (hc : PT X c (tDT X C G W D')) (ha : PE X a (tD X C G W A)) (hb : PE X b (tD X C G W B)) : PE X (.IfExp c a b pos) (tD X C G W (.ife D' A B)) :=
  PE_imp (pe_ifExp hc ha hb) fun σ H Q ⟨m, ρ, S, ra, re, p⟩ => ⟨m, ρ, S, ra, re, Post.imp (Post.bind (rel1 := relEq) p) fun k H1 ⟨m1, d, S1, l1, ra1, r1, p1⟩ => by
    have r1' : d = k := r1
    subst r1'
    cases d with
    | true => exact ⟨m1, ρ, S1, ra1, re.mono l1, p1⟩
    | false => exact ⟨m1, ρ, S1, ra1, re.mono l1, p1⟩⟩
theorem da_nil : PA X [] (tDs X C G W .nil) := PA_imp pa_nil fun σ H Q ⟨m, ρ, S, ra, re, p⟩ => p.now ra .nil
theorem da_cons {es : List Expr} (ha : PE X e (tD X C G W A)) (hr : PA X es (tDs X C G W B)) (hs : starEach (e :: es) X.env = (false, eval e X.env) :: starEach es X.env := by rfl) : PA X (e :: es) (tDs X C G W (.cons A B)) :=
  PA_imp (pa_cons ha hr hs) fun σ H Q ⟨m, ρ, S, ra, re, p⟩ => ⟨m, ρ, S, ra, re, Post.imp (Post.bind p) fun x H1 ⟨m1, d, S1, l1, ra1, r1, p1⟩ =>
    ⟨m1, ρ, S1, ra1, re.mono l1, Post.imp (Post.bind p1) fun xs H2 ⟨m2, ds, S2, l2, ra2, r2, p2⟩ => p2.now ra2 (.cons (r1.mono l2) r2)⟩⟩
theorem dk_nil : PK X [] (tDs X C G W .nil) := PK_imp pk_nil fun σ H Q ⟨m, ρ, S, ra, re, p⟩ => p.now ra .nil
theorem dk_cons {es : List Keyword} {nm : Option Str} {kpos : Pos} (ha : PE X e (tD X C G W A)) (hr : PK X es (tDs X C G W B)) : PK X (⟨nm, e, kpos⟩ :: es) (tDs X C G W (.cons A B)) :=
  PK_imp (pk_cons ha hr) fun σ H Q ⟨m, ρ, S, ra, re, p⟩ => ⟨m, ρ, S, ra, re, Post.imp (Post.bind p) fun x H1 ⟨m1, d, S1, l1, ra1, r1, p1⟩ =>
    ⟨m1, ρ, S1, ra1, re.mono l1, Post.imp (Post.bind p1) fun xs H2 ⟨m2, ds, S2, l2, ra2, r2, p2⟩ => p2.now ra2 (.cons (r1.mono l2) r2)⟩⟩
theorem dp_none : PO X none (tDp X C G W .nil) := PO_imp po_none fun σ H Q ⟨m, ρ, S, ra, re, p⟩ => p.now ra rfl
theorem dp_some (ha : PE X e (tD X C G W A)) : PO X (some e) (tDp X C G W (.cons A .nil)) :=
  PO_imp (po_some ha) fun σ H Q ⟨m, ρ, S, ra, re, p⟩ => ⟨m, ρ, S, ra, re, Post.imp (asI_rp p) fun x H1 ⟨m1, i, S1, e1, l1, ra1, p1⟩ => ⟨i, e1, p1.now ra1 rfl⟩⟩
theorem de_ix {cb : Bool} (cx : Ctx cb X) (ha : PE X a (tD X C G W A)) (hb : PE X b (tD X C G W B)) (hs : PlainIx b := by exact fun _ _ => rfl) : PE X (.Subscript a b pos) (tD X C G W (.ix A B)) :=
  PE_imp (pe_ix (ix_any cx) ha hb hs) fun σ H Q ⟨m, ρ, S, ra, re, p⟩ => ⟨m, ρ, S, ra, re, Post.imp (Post.bind p) fun x H1 ⟨m1, d, S1, l1, ra1, r1, p1⟩ =>
    ⟨m1, ρ, S1, ra1, re.mono l1, Post.imp (Post.bind p1) fun y H2 ⟨m2, d2, S2, l2, ra2, r2, p2⟩ => by
      obtain ⟨z, hz, p3⟩ := post_opt p2
      exact ⟨m2, S2, d, d2, z, ra2, r1.mono l2, r2, hz, fun v rv => p3.now ra2 rv⟩⟩⟩
theorem de_sl {lo hi : Option Expr} {p2 : Pos} (ha : PE X a (tD X C G W A)) (hl : PO X lo (tDp X C G W B)) (hh : PO X hi (tDp X C G W D')) : PE X (.Subscript a (.Slice lo hi none p2) pos) (tD X C G W (.sl A B D')) :=
  PE_imp (pe_slice sl_any ha hl hh) fun σ H Q ⟨m, ρ, S, ra, re, p⟩ => ⟨m, ρ, S, ra, re, Post.imp (Post.bind p) fun x H1 ⟨m1, d, S1, l1, ra1, r1, p1⟩ =>
    ⟨m1, ρ, S1, ra1, re.mono l1, Post.imp (Post.bind (rel1 := relEq) p1) fun o H2 ⟨m2, o', S2, l2, ra2, r2, p2⟩ => by
      have r2' : o' = o := r2
      subst r2'
      exact ⟨m2, ρ, S2, ra2, (re.mono l1).mono l2, Post.imp (Post.bind (rel1 := relEq) p2) fun u H3 ⟨m3, u', S3, l3, ra3, r3, p3⟩ => by
        have r3' : u' = u := r3
        subst r3'
        exact ⟨_, m3, S3, d, ra3, (r1.mono l2).mono l3, p3⟩⟩⟩⟩
theorem le1000 {n : Nat} (h : n ≤ 1000) : n ≤ sizeLine := Nat.le_trans h (by decide)
theorem de_tup {es : List Expr} {k : Nat} (h : PA X es (tDs X C G W A)) : PE X (.Tuple es k pos) (tD X C G W (.tup A)) :=
  PE_imp (pe_tup h) fun σ H Q ⟨m, ρ, S, ra, re, p⟩ => ⟨m, ρ, S, ra, re, Post.imp (Post.bind p) fun xs H1 ⟨m1, ds, S1, l1, ra1, r1, p1⟩ => by
    by_cases c : ds.length ≤ 1000
    · rw [if_pos c] at p1
      exact ⟨by rw [r1.length]; exact le1000 c, post_tup ra1 r1 p1⟩
    · rw [if_neg c] at p1
      exact p1.elim⟩
theorem de_lst {es : List Expr} (h : PA X es (tDs X C G W A)) : PE X (.List es pos) (tD X C G W (.lst A)) :=
  PE_imp (pe_lst h) fun σ H Q ⟨m, ρ, S, ra, re, p⟩ => ⟨m, ρ, S, ra, re, Post.imp (Post.bind p) fun xs H1 ⟨m1, ds, S1, l1, ra1, r1, p1⟩ => by
    by_cases c : ds.length ≤ 1000
    · rw [if_pos c] at p1
      exact ⟨by rw [r1.length]; exact le1000 c, post_mk ra1 r1 p1⟩
    · rw [if_neg c] at p1
      exact p1.elim⟩
theorem de_biB {x : Str} {id : String} {bb : Bi} {es : List Expr} {p : Pos} {cb : Bool} (cx : Ctx cb X) (hx : x ∈ bnames) (hc : CallR X (.builtin id) (rBi X.kw X.mg bb)) (hg : Gl X x) (hv : bootBuiltins x = some (.builtin id)) (ha : PA X (e :: es) (tDs X C G W A))
    (hn : x ≠ "__name__" := by decide) (hdb : (x == ("__debug__" : Str)) = false := by decide) (he : starEach (e :: es) X.env = (false, eval e X.env) :: starEach es X.env := by rfl) (hpl : (backTo pos (starEach es X.env)).any (·.1) = false := by rfl) :
    PE X (.Call (.Name x p) (e :: es) [] pos) (tD X C G W (.bi bb A)) :=
  PE_imp (pe_callB hc hg (cx.nob x hx) hv ha hn hdb he hpl) fun σ H Q ⟨m, ρ, S, ra, re, p⟩ => ⟨m, ρ, S, ra, re, Post.imp (Post.bind p) fun xs H1 ⟨m1, ds, S1, l1, ra1, r1, p1⟩ => ⟨_, m1, S1, ds, ra1, r1, p1⟩⟩
theorem de_biT {x : Str} {T : String} {bb : Bi} {es : List Expr} {p : Pos} {cb : Bool} (cx : Ctx cb X) (hx : x ∈ bnames) (hc : CallR X (.type T) (rBi X.kw X.mg bb)) (hg : Gl X x) (hv : bootBuiltins x = some (.type T)) (ha : PA X (e :: es) (tDs X C G W A))
    (hn : x ≠ "__name__" := by decide) (hdb : (x == ("__debug__" : Str)) = false := by decide) (he : starEach (e :: es) X.env = (false, eval e X.env) :: starEach es X.env := by rfl) (hpl : (backTo pos (starEach es X.env)).any (·.1) = false := by rfl) :
    PE X (.Call (.Name x p) (e :: es) [] pos) (tD X C G W (.bi bb A)) :=
  PE_imp (pe_callTy hc hg (cx.nob x hx) hv ha hn hdb he hpl) fun σ H Q ⟨m, ρ, S, ra, re, p⟩ => ⟨m, ρ, S, ra, re, Post.imp (Post.bind p) fun xs H1 ⟨m1, ds, S1, l1, ra1, r1, p1⟩ => ⟨_, m1, S1, ds, ra1, r1, p1⟩⟩
theorem de_frzv (ha : PE X a (tD X C G W A)) : PE X a (tD X C G W (.frzv A)) := by
  refine ⟨fun pins s σ H Q I ⟨m, ρ, S, ra, re, p⟩ => ?_⟩
  have p0 : Post X.kw X.mg (fun c d H' => W c d σ H') (Rp X.kw X.mg) m H (trim S ((ev C G A ρ S).bind fun x S1 => frzD x S1)) Q := p
  refine thn (ha.run pins s σ H _ I ⟨m, ρ, S, ra, re, Post.bind (Post.trim ra p0)⟩) fun v s1 ⟨x, H1, I1, r1, m1, d, S1, l1, ra1, rp1, p1⟩ => ?_
  have keep : ∀ {d' : D}, Post X.kw X.mg (fun c d H' => W c d σ H') (Rp X.kw X.mg) m1 H1 (.ok d S1) Q → EP X pins σ Q v s1 := fun {d'} q => ⟨x, H1, I1, r1, q.now ra1 rp1⟩
  cases rp1 with
  | @loc n a b t =>
    have p2 : Post X.kw X.mg (fun c d H' => W c d σ H') (Rp X.kw X.mg) m1 H1 (match S1[n]? with
      | some (.lst ds) => .ok (.fl ds) (S1.set n (.frz ds))
      | some (.dic kvs) => .ok (.fd (kvs.map (·.1)) (kvs.map (·.2))) (S1.set n (.fdic kvs))
      | some (.dn kvs) => .ok (.fm (kvs.map (·.1)) (kvs.map (·.2))) (S1.set n (.fdn kvs))
      | _ => .ok (.loc n) S1) Q := p1
    cases q : S1[n]? with
    | none => rw [q] at p2; exact keep (d' := .non) p2
    | some so =>
      rw [q] at p2
      cases so with
      | lst ds =>
        obtain ⟨vs, hb, g1, g2⟩ := ra1.at_ n (a, b) _ t q
        have hb' : b = false := hb
        subst hb'
        obtain ⟨od, I2⟩ := I1.lock g1 trivial
        have l2 : Le m1 m1 H1 (upd H1 a (.frz od (.lst vs))) := Le.writeO t g1 trivial
        exact ⟨.ref a, _, I2, r1, p2 m1 _ _ l2 (ra1.writeO t g1 trivial ⟨vs, .inl ⟨rfl, od, upd_same⟩, g2.mono l2⟩) (.fl upd_same (g2.mono l2))⟩
      | dic kvs =>
        obtain ⟨ks, hb, g1, g2⟩ := ra1.at_ n (a, b) _ t q
        have hb' : b = false := hb
        subst hb'
        obtain ⟨od, I2⟩ := I1.lock g1 trivial
        have l2 : Le m1 m1 H1 (upd H1 a (.frz od (.dK ks))) := Le.writeO t g1 trivial
        exact ⟨.ref a, _, I2, r1, p2 m1 _ _ l2 (ra1.writeO t g1 trivial ⟨ks, od, rfl, upd_same, kvs_mono g2 l2⟩) (.fd upd_same g2.1 (g2.2.mono l2))⟩
      | dn kvs =>
        obtain ⟨ks, hb, g1, g2⟩ := ra1.at_ n (a, b) _ t q
        have hb' : b = false := hb
        subst hb'
        obtain ⟨od, I2⟩ := I1.lock g1 trivial
        have l2 : Le m1 m1 H1 (upd H1 a (.frz od (DnO X.w a ks))) := Le.writeO t g1 trivial
        have g3 := g2.mov l2.lt
        exact ⟨.ref a, _, I2, r1, p2 m1 _ _ l2 (ra1.writeO t g1 trivial ⟨ks, od, rfl, upd_same, g3⟩) (.fm upd_same g3.1 (by rw [g3.1]; exact g3.2.1) g3.2.2)⟩
      | _ => exact keep (d' := .non) p2
  | _ => exact keep (d' := .non) p1
def rMt (K : KW) (mg : Str → Option Value) (mm : Mt) : V → List V → Hp → VK → Prop := fun x xs H Q => ∃ W m S d es, RelA K mg m H S ∧ Rp K mg m H d x ∧ Rps K mg m H es xs ∧ Post K mg W (Rp K mg) m H (mtD mm d es S) Q
theorem mt_open {K : KW} {mg : Str → Option Value} {mm : Mt} {x : V} {xs : List V} {H : Hp} {Q : VK} (h : rMt K mg mm x xs H Q) :
    ∃ (m : Mp) (S : Sto) (a : Addr) (ds es : List D) (vs : List V) (r : D) (ys : List D), x = .ref a ∧ H a = some (.lst vs) ∧ RelA K mg m H S ∧ Rps K mg m H ds vs ∧ Rps K mg m H es xs ∧ mtL mm ds es S = some (r, ys) ∧
      ∀ ws v, Rps K mg m H ys ws → Rp K mg m H r v → Q v (upd H a (.lst ws)) := by
  obtain ⟨W, m, S, d, es, ra, rx, rs, p⟩ := h
  cases rx with
  | @loc n a b t =>
    have p1 : Post K mg W (Rp K mg) m H (match S[n]? with
      | some (.lst ds) => mtW n S (mtL mm ds es S)
      | _ => .bad) Q := p
    cases hl : S[n]? with
    | none => rw [hl] at p1; exact p1.elim
    | some so =>
      rw [hl] at p1
      cases so with
      | lst ds =>
        have p2 : Post K mg W (Rp K mg) m H (mtW n S (mtL mm ds es S)) Q := p1
        obtain ⟨vs, h1, h2⟩ := ra.lst t hl
        cases hm : mtL mm ds es S with
        | none => rw [hm] at p2; exact p2.elim
        | some q =>
          rw [hm] at p2
          refine ⟨m, S, a, ds, es, vs, q.1, q.2, rfl, h1, ra, h2, rs, hm, fun ws v r1 r2 => ?_⟩
          have l : Le m m H (upd H a (.lst ws)) := Le.write ra t hl h1
          exact p2 m _ v l (ra.write t hl h1 r1) (r2.mono l)
      | _ => exact p1.elim
  | _ => exact p.elim
structure MtI (X : Cx) (mm : Mt) (name : Str) : Prop where
  ex : ∃ id : String, Slot "list" name id ∧ typeOf (.builtin id) = pure (.type "method_descriptor") ∧ MtR X id (rMt X.kw X.mg mm)
theorem mi_append : MtI X .append "append" := ⟨_, PySem.F.slot_list_append, PySem.F.type_list_append, fun pins s σ H x xs v us Q I rx rv h => by
  obtain ⟨m, S, a, ds, es, vs, r, ys, rfl, h1, ra, r1, r2, hm, q⟩ := mt_open h
  match es, r2, hm with
  | [d], r2, hm =>
    obtain ⟨y, rfl, ry⟩ := rps1 r2
    have hm' : (if ds.length < sizeLine then some (D.non, ds ++ [d]) else none) = some (r, ys) := hm
    by_cases c : ds.length < sizeLine
    · rw [if_pos c] at hm'
      cases hm'
      exact mt_append pins s σ H _ _ v us Q I rx rv ⟨a, vs, y, rfl, rfl, h1, by rw [r1.length]; exact c, q _ _ (r1.append (.cons ry .nil)) .non⟩
    · rw [if_neg c] at hm'
      cases hm'
  | [], _, hm => cases hm
  | _ :: _ :: _, _, hm => cases hm⟩
theorem de_mt {mm : Mt} {name : Str} {o : Expr} {es : List Expr} {apos cpos : Pos} (hi : MtI X mm name) (ho : PE X o (tD X C G W A)) (ha : PA X (e :: es) (tDs X C G W B))
    (hbase : attributeBase o name X.env (eval o X.env) = eval o X.env := by rfl)
    (hfew : ((backTo cpos (starEach (e :: es) X.env)).all (fun x => !x.1) && (backToKw cpos (keywordEach [] X.env)).all (fun x => x.1.isSome)
      && decide ((e :: es).length + ([] : List Keyword).length + (if ([] : List Keyword).isEmpty then 0 else 1) < 30)) = true := by rfl)
    (hline : (apos.endLine == cpos.line) = true := by rfl) (hs : starEach (e :: es) X.env = (false, eval e X.env) :: starEach es X.env := by rfl) (hplain : (backTo cpos (starEach es X.env)).any (·.1) = false := by rfl) :
    PE X (.Call (.Attribute o name apos) (e :: es) [] cpos) (tD X C G W (.mt mm A B)) := by
  obtain ⟨id, hsl, hty, hr⟩ := hi.ex
  exact PE_imp (pe_bm PySem.F.plainAttrs_list hsl hty hr ho ha hbase hfew hline hs hplain) fun σ H Q ⟨m, ρ, S, ra, re, p⟩ =>
    ⟨m, ρ, S, ra, re, Post.imp (Post.bind p) fun x H1 ⟨m1, d, S1, l1, ra1, r1, p1⟩ => by
      by_cases c : isLst d S1 = true
      · rw [if_pos c] at p1
        cases r1 with
        | @loc n q _ t =>
          have c' : (lstAt S1 n).isSome = true := c
          obtain ⟨xs0, hx0⟩ := Option.isSome_iff_exists.mp c'
          obtain ⟨vs0, h1, h2⟩ := ra1.seq t hx0
          exact ⟨.inl ⟨rfl, vs0, h1⟩, m1, ρ, S1, ra1, re.mono l1, Post.imp (Post.bind p1) fun ys H2 ⟨m2, ds, S2, l2, ra2, r2, p2⟩ => ⟨_, m2, S2, .loc n, ds, ra2, (Rp.loc t).mono l2, r2, p2⟩⟩
        | _ => cases c
      · rw [if_neg c] at p1
        exact p1.elim⟩
end
end CC
namespace CC
open PySem PySem.Spec PyProof.Rows L2
def SqK (k : Bool) (K : PySem.W.Frag) (H : Hp) (a : Addr) (xs : List V) : Prop := match k with
  | true => SqL K H a xs
  | false => SqT K H a xs
def ItK (k : Bool) (h : Heap) (it l : Addr) (i : Nat) : Prop := match k with
  | true => h.IsListIter it l i
  | false => h.IsTupleIter it l i
def OfK (k : Bool) (h : Heap) (l : Addr) (us : Array Value) : Prop := match k with
  | true => h.IsList l us
  | false => h.IsTuple l us
def obK (k : Bool) (l : Addr) : Obj := match k with
  | true => { cls := .type "list_iterator", data := .fields #[.ref l, .int 0 0] }
  | false => { cls := .type "tuple_iterator", data := .fields #[.ref l, .int 0 0] }
theorem beginsK (k : Bool) (l : Addr) (us : Array Value) : Begins (.ref l) (obK k l) (fun h => OfK k h l us) := by
  cases k
  · exact begins_tuple l us
  · exact begins_list l us
theorem obK_it {k : Bool} {h : Heap} {it l : Addr} (e : h.get? it = some (obK k l)) : ItK k h it l 0 := by
  cases k
  · exact ⟨_, e, rfl, rfl⟩
  · exact ⟨_, e, rfl, rfl⟩
theorem drawsK (k : Bool) {prog : Program} {w : World} {A : Around} (hh : A.handled = none) {it l : Addr} (ne : l ≠ it) (us : Array Value) : Draws prog w A it [it, l] us.size (fun i v => us[i]? = some v) (fun i h => ItK k h it l i ∧ OfK k h l us) := by
  cases k
  · exact Draws.tuple hh it l ne us
  · exact Draws.list hh it l ne us
theorem ItK.to {k : Bool} {h h' : Heap} {it l : Addr} {i : Nat} (x : ItK k h it l i) (m : ∀ o, h.get? it = some o → h'.get? it = some o) : ItK k h' it l i := by
  cases k
  · exact Heap.IsTupleIter.at x fun o q => m o q
  · exact Heap.IsListIter.at x fun o q => m o q
theorem ItK.obj {k : Bool} {h : Heap} {it l : Addr} {i : Nat} (x : ItK k h it l i) : ∃ o, h.get? it = some o ∧ ∀ v, o.data ≠ .cell v := by
  cases k
  · obtain ⟨o, e, _, d⟩ := x
    exact ⟨o, e, fun v z => by rw [d] at z; cases z⟩
  · obtain ⟨o, e, _, d⟩ := x
    exact ⟨o, e, fun v z => by rw [d] at z; cases z⟩
theorem OfK.to {k : Bool} {h h' : Heap} {l : Addr} {us : Array Value} (x : OfK k h l us) (m : ∀ o, h.get? l = some o → h'.get? l = some o) : OfK k h' l us := by
  cases k
  · exact Heap.IsTuple.at x fun o q => m o q
  · exact Heap.IsList.at x fun o q => m o q
theorem drawsEnd (k : Bool) {prog : Program} {w : World} {A : Around} (hh : A.handled = none) {it l : Addr} {us : Array Value} {i : Nat} (hi : us.size ≤ i) : Draws prog w A it [it, l] i (fun _ _ => True) (fun j h => j = i ∧ ItK k h it l i ∧ OfK k h l us) where
  live := fun _ _ st => let ⟨o, ho, _⟩ := st.2.1.obj; ⟨o, ho⟩
  frame := fun _ _ _ st m => ⟨st.1, st.2.1.to (m it (by simp)), st.2.2.to (m l (by simp))⟩
  item := fun j s Q E hj st _ => absurd st.1 (Nat.ne_of_lt hj)
  done := fun s Q E st hE => by
    obtain ⟨_, s1, s2⟩ := st
    cases k
    · exact wpAny_nextOf_tuple_end hh s1 s2 (by simp; omega) hE
    · exact wpAny_nextOf_list_end hh s1 s2 (by simp; omega) hE
theorem curK (k : Bool) {prog : Program} {w : World} {A : Around} (hh : A.handled = none) {it l : Addr} (ne : l ≠ it) {us : Array Value} {i : Nat} {h : Heap} (q1 : ItK k h it l i) (q2 : OfK k h l us) :
    ∃ (n : Nat) (P : Nat → Value → Prop) (St : Nat → Heap → Prop), Draws prog w A it [it, l] n P St ∧ St i h ∧ i ≤ n ∧ (us.size ≤ i → i = n) := by
  by_cases c : us.size ≤ i
  · exact ⟨_, _, _, drawsEnd k hh c, ⟨rfl, q1, q2⟩, Nat.le_refl _, fun _ => rfl⟩
  · exact ⟨_, _, _, drawsK k hh ne us, ⟨q1, q2⟩, by omega, fun z => absurd z c⟩
section
variable {X : Cx} {pins : List (Addr × Obj)} {σ : L2.St} {H : Hp} {s : Shared} {k : Bool} {a : Addr} {xs ys : List V}
theorem SqK.vals (I : Inv X pins σ H s) (h : SqK k X.K H a xs) : ∃ us : List Value, Vals xs us ∧ OfK k s.heap a us.toArray ∧ a < s.heap.objs.size := by
  cases k
  · obtain ⟨us, r, p, _⟩ := I.tuple h
    obtain ⟨o, e, _⟩ := id p
    exact ⟨us, r, p, Heap.lt_size e⟩
  · obtain ⟨us, r, p, _⟩ := I.list h
    exact ⟨us, r, p.isList, p.lt⟩
theorem SqK.one (I : Inv X pins σ H s) (h : SqK k X.K H a xs) (g : SqK k X.K H a ys) : xs = ys := by
  cases k
  · exact I.tuple_inj h g
  · exact I.list_inj h g
end
def ItzK (k1 k2 : Bool) (K : PySem.W.Frag) (a b : Addr) : It :=
  ⟨fun i H => ∃ (xs ys : List V) (x y : V), SqK k1 K H a xs ∧ SqK k2 K H b ys ∧ xs[i]? = some x ∧ ys[i]? = some y,
    fun i H v H' => ∃ T x y, v = .ref T ∧ H T = none ∧ H' = upd H T (.tup [x, y]) ∧ (∀ xs, SqK k1 K H a xs → xs[i]? = some x) ∧ ∀ ys, SqK k2 K H b ys → ys[i]? = some y,
    fun i H => ∃ xs ys : List V, SqK k1 K H a xs ∧ SqK k2 K H b ys ∧ (xs.length ≤ i ∨ ys.length ≤ i)⟩
theorem turnK2 {P : Program} {w : World} {K : PySem.W.Frag} {elts : List Expr} {kk : Nat} {tpos : Pos} {k1 k2 : Bool} {a b z TI TO i1 i2 : Addr} (D : ZipSep2 z TI TO i1 i2 [i1, a] [i2, b]) (na : a ≠ i1) (nb : b ≠ i2) :
    Turn P w K (.Tuple elts kk tpos) (ItzK k1 k2 K a b) [z, TI, TO, i1, i2] z (fun i h => IsZip h z TI TO .none ∧ IsTupOf2 h TI (.ref i1) (.ref i2) ∧ (∃ x y, IsTupOf2 h TO x y) ∧ ItK k1 h i1 a i ∧ ItK k2 h i2 b i) where
  mem := by simp
  obj := fun i h ⟨qz, qT, ⟨x, y, qO⟩, q1, q2⟩ c hc => by
    have e' : c = z ∨ c = TI ∨ c = TO ∨ c = i1 ∨ c = i2 := by simpa using hc
    rcases e' with rfl | rfl | rfl | rfl | rfl
    · exact ⟨_, qz, fun v n => nomatch n⟩
    · exact ⟨_, qT, fun v n => nomatch n⟩
    · exact ⟨_, qO, fun v n => nomatch n⟩
    · exact q1.obj
    · exact q2.obj
  keep := fun i h h' ⟨qz, qT, ⟨x, y, qO⟩, q1, q2⟩ m =>
    ⟨m z (by simp) _ qz, m TI (by simp) _ qT, ⟨x, y, m TO (by simp) _ qO⟩, q1.to (m i1 (by simp)), q2.to (m i2 (by simp))⟩
  item := by
    intro X eP ew eK calm i pins s σ H E I hf st go
    subst eP ew eK
    obtain ⟨qz, qT, ⟨x0, y0, qO⟩, q1, q2⟩ := st
    obtain ⟨xs, ys, x, y, sx, sy, gx, gy⟩ := go
    obtain ⟨us, ru, ou, _⟩ := sx.vals I
    obtain ⟨vs, rv, ov, _⟩ := sy.vals I
    obtain ⟨u, hu, ru1⟩ := ru.get gx
    obtain ⟨v, hv, rv1⟩ := rv.get gy
    have hh : X.A.in1.handled = none := I.ok.hd calm
    have lu : i < us.toArray.size := by simpa using (List.getElem?_eq_some_iff.mp hu).1
    have lv : i < vs.toArray.size := by simpa using (List.getElem?_eq_some_iff.mp hv).1
    have lz : z < s.heap.objs.size := Heap.lt_size qz
    refine wpAny_pyNext_zipD2_item D (drawsK k1 hh na us.toArray) (drawsK k2 hh nb vs.toArray) qz qT qO ⟨q1, ou⟩ ⟨q2, ov⟩ lu lv fun u' v' h' tk pu pv gz gO g1 g2 gT _ same => ?_
    have eu : u' = u := Option.some.inj (pu.symm.trans (by simpa using hu))
    have ev : v' = v := Option.some.inj (pv.symm.trans (by simpa using hv))
    subst eu ev
    refine ⟨_, rfl, wpAny_letOwnedTupleGo_zip (s := { s with heap := h', toks := tk }) gz fun h2 gz2 but => ?_⟩
    have T2 := (but.2 _ (Nat.ne_of_gt lz)).trans gT
    have ok : ObjOk X.prog X.w (upd H s.heap.objs.size (.tup [x, y])) h2 s.heap.objs.size (.tup [x, y]) := ⟨by show 2 ≤ sizeLine; decide, [u', v'], .cons ru1 (.cons rv1 .nil), ⟨_, T2, rfl, _, rfl⟩⟩
    have I1 : Inv X pins σ (upd H s.heap.objs.size (.tup [x, y])) { s with heap := h2, toks := tk } := I.turnedNew (t' := tk) (ch := [z, TI, TO, i1, i2]) (fun c o nc q => (but.2 c fun e => nc (by simp [e])).trans (same c o (fun e => nc (by simp [e])) (fun e => nc (by simp [e])) (fun e => nc (by simp [e])) (fun e => nc (by simp [e])) q)) hf (Nat.le_refl _) ok
    have still : ∀ c o, c ≠ z → c ≠ TO → c ≠ i1 → c ≠ i2 → s.heap.get? c = some o → h2.get? c = some o := fun c o n1 n2 n3 n4 q => (but.2 c n1).trans (same c o n1 n2 n3 n4 q)
    refine ⟨.ref s.heap.objs.size, _, I1, rfl, ⟨_, x, y, rfl, I.hok.fresh (Nat.le_refl _), rfl, fun l hl => by rw [hl.one I sx]; exact gx, fun l hl => by rw [hl.one I sy]; exact gy⟩, ⟨gz2, still _ _ D.TIz D.TITO D.TIi1 D.TIi2 qT, ⟨u', v', (but.2 _ D.TOz).trans gO⟩, ?_, ?_⟩, fun c hc => ?_⟩
    · exact g1.1.to fun o q => (but.2 _ D.zi1.symm).trans q
    · exact g2.1.to fun o q => (but.2 _ D.zi2.symm).trans q
    · have lc : c < s.heap.objs.size := by
        have e' : c = z ∨ c = TI ∨ c = TO ∨ c = i1 ∨ c = i2 := by simpa using hc
        rcases e' with rfl | rfl | rfl | rfl | rfl
        · exact lz
        · exact Heap.lt_size qT
        · exact Heap.lt_size qO
        · obtain ⟨_, e, _⟩ := q1.obj; exact Heap.lt_size e
        · obtain ⟨_, e, _⟩ := q2.obj; exact Heap.lt_size e
      rw [upd_ne (Nat.ne_of_lt lc)]
      exact (hf c hc).1
  done := by
    intro X eP ew eK calm i pins s σ H E I hf st stop
    subst eP ew eK
    obtain ⟨qz, qT, ⟨x0, y0, qO⟩, q1, q2⟩ := st
    obtain ⟨xs, ys, sx, sy, e⟩ := stop
    obtain ⟨us, ru, ou, _⟩ := sx.vals I
    obtain ⟨vs, rv, ov, _⟩ := sy.vals I
    have hh : X.A.in1.handled = none := I.ok.hd calm
    have l1 := ru.length
    have l2 := rv.length
    obtain ⟨n1, P1, S1, D1, g1, le1, z1⟩ := curK k1 (prog := X.prog) (w := X.w) hh na q1 ou
    obtain ⟨n2, P2, S2, D2, g2, le2, z2⟩ := curK k2 (prog := X.prog) (w := X.w) hh nb q2 ov
    refine wpAny_pyNext_zipD2_end D D1 D2 qz qT qO g1 g2 le1 le2 ?_ fun h' tk same => ⟨rfl, I.turnedL (t' := tk) (ch := [z, TI, TO, i1, i2]) (fun c o nc q => same c o (fun e => nc (by simp [e])) (fun e => nc (by simp [e])) (fun e => nc (by simp [e])) (fun e => nc (by simp [e])) q) hf⟩
    rcases e with e | e
    · exact .inl (z1 (by simp; omega))
    · exact .inr (z2 (by simp; omega))
  self := fun A i s Q E st h => wpAny_pyIter_zip st.1 h
theorem notin {x y z : Nat} (h : x ≠ y) (g : x ≠ z) : x ∉ [y, z] := fun q => by
  rcases List.mem_cons.mp q with e | e
  · exact h e
  · exact g (List.mem_singleton.mp e)
theorem sepN (N a b : Nat) (ha : a < N) (hb : b < N) : ZipSep2 (N + 4) (N + 2) (N + 3) N (N + 1) [N, a] [N + 1, b] where
  TIz := fun e => absurd (show N + 2 = N + 4 from e) (by omega)
  TOz := fun e => absurd (show N + 3 = N + 4 from e) (by omega)
  TITO := fun e => absurd (show N + 2 = N + 3 from e) (by omega)
  TIi1 := fun e => absurd (show N + 2 = N from e) (by omega)
  mem1 := List.mem_cons_self
  zf1 := notin (by omega) (by omega)
  Tf1 := notin (by omega) (by omega)
  TIi2 := fun e => absurd (show N + 2 = N + 1 from e) (by omega)
  mem2 := List.mem_cons_self
  zf2 := notin (by omega) (by omega)
  Tf2 := notin (by omega) (by omega)
  sep1_2 := notin (by omega) (by omega)
  sep2_1 := notin (by omega) (by omega)
def iZipK (K : PySem.W.Frag) (ta : TA) : TI := fun σ H R => ta σ H fun ws H1 => ∃ k1 k2 a b xs ys, ws = [.ref a, .ref b] ∧ SqK k1 K H1 a xs ∧ SqK k2 K H1 b ys ∧ R (ItzK k1 k2 K a b) H1
theorem pi_zipK {X : Cx} {e e2 : Expr} {ta : TA} {p pos tpos : Pos} {elts : List Expr} {kk : Nat} (hg : Gl X "zip") (hm : X.mg "zip" = none) (ha : PA X [e, e2] ta)
    (hs : starEach [e, e2] X.env = (false, eval e X.env) :: starEach [e2] X.env := by rfl) (hpl : (backTo pos (starEach [e2] X.env)).any (·.1) = false := by rfl) :
    PI X (.Tuple elts kk tpos) (.Call (.Name "zip" p) [e, e2] [] pos) (iZipK X.K ta) := by
  refine ⟨fun pins s σ H R I h => Call_ (ld_blt I hg hm PyProof.Rows.boot_zip (PyProof.Rows.callWith_type1 (thn (ha.run pos pins s σ H _ I h) fun us s1 ⟨ws, H1, I1, r1, q1⟩ => ?_) hs hpl))⟩
  obtain ⟨k1, k2, a, b, xs, ys, ew, sx, sy, q⟩ := q1
  subst ew
  obtain ⟨v1, v2, rfl, e1, e2'⟩ := vals2 r1
  cases (show v1 = Value.ref a from e1)
  cases (show v2 = Value.ref b from e2')
  obtain ⟨us1, _, o1, la⟩ := sx.vals I1
  obtain ⟨us2, _, o2, lb⟩ := sy.vals I1
  refine zip_begins2 (beginsK k1 a us1.toArray) (beginsK k2 b us2.toArray) o1 o2 fun h' gz gT gO g1 g2 _ same => wpAny_pyIter_zip gz ?_
  have I2 : Inv X pins σ H1 { s1 with heap := h' } := I1.kept (t' := s1.toks) same
  obtain ⟨N, hN⟩ : ∃ N, N = s1.heap.objs.size := ⟨_, rfl⟩
  rw [← hN] at gz gT gO g1 g2 la lb ⊢
  have D := sepN N a b la lb
  refine ⟨N + 4, [N + 4, N + 2, N + 3, N, N + 1], _, _, H1, rfl, I2, turnK2 D (Nat.ne_of_lt la) (Nat.ne_of_lt (Nat.lt_succ_of_lt lb)), ⟨gz, gT, ⟨_, _, gO⟩, obK_it g1, obK_it g2⟩, fun c hc => ?_, q⟩
  have hle : s1.heap.objs.size ≤ c := by
    have e' : c = N + 4 ∨ c = N + 2 ∨ c = N + 3 ∨ c = N ∨ c = N + 1 := by simpa using hc
    rw [← hN]
    rcases e' with e | e | e | e | e <;> rw [e] <;> first | exact Nat.le_add_right _ _ | exact Nat.le_refl _
  exact I1.fpOk hle (I1.hok.fresh hle)
end CC
namespace CC
open PySem PySem.Spec PyProof.Rows L2
mutual
def tslots : Xp → List Nat
  | .var i => [i]
  | .tup t => tslotsL t
  | .lst t => tslotsL t
  | _ => []
def tslotsL : Xp → List Nat
  | .cons a b => tslots a ++ tslotsL b
  | _ => []
end
def Wp (sl : List Nat) (σ σ' : L2.St) : Prop := ∀ vs : List Nat, (∀ i ∈ sl, i ∈ vs) → wipe σ' vs = wipe σ vs
def gT (K : KW) (mg : Str → Option Value) (t : Xp) : TG := fun v σ H Q => ∃ m ρ S d ρ', RelA K mg m H S ∧ RelE K mg m H σ ρ ∧ Rp K mg m H d v ∧ bindT t d ρ = some ρ' ∧ ∀ σ', RelE K mg m H σ' ρ' → Wp (tslots t) σ σ' → Q σ' H
def gTs (K : KW) (mg : Str → Option Value) (t : Xp) : TGs := fun vs σ H Q => ∃ m ρ S ds ρ', RelA K mg m H S ∧ RelE K mg m H σ ρ ∧ Rps K mg m H ds vs ∧ bindL t ds ρ = some ρ' ∧ ∀ σ', RelE K mg m H σ' ρ' → Wp (tslotsL t) σ σ' → Q σ' H
theorem wipe_mem {σ : L2.St} {i : Nat} : ∀ {vs : List Nat}, i ∈ vs → ∀ x, wipe (σ.set i x) vs = wipe σ vs
  | v :: vs, h, x => by
    unfold wipe
    by_cases e : i ∈ vs
    · rw [wipe_mem e x]
    · have hv : i = v := by
        rcases List.mem_cons.mp h with q | q
        · exact q
        · exact absurd q e
      subst hv
      have : ∀ (ws : List Nat), wipe (σ.set i x) ws = (wipe σ ws).set i x ∨ i ∈ ws := by
        intro ws
        induction ws with
        | nil => exact .inl rfl
        | cons w ws ih =>
          by_cases q : i = w
          · exact .inr (by rw [q]; exact List.mem_cons_self)
          · rcases ih with ih | ih
            · refine .inl ?_
              unfold wipe
              rw [ih]
              exact List.set_comm _ _ q
            · exact .inr (List.mem_cons_of_mem _ ih)
      rcases this vs with q | q
      · rw [q, List.set_set]
      · exact absurd q e
theorem PG_imp {X : Cx} {tg : Expr} {t t' : TG} (h : PG X tg t) (i : ∀ v σ H Q, t' v σ H Q → t v σ H Q) : PG X tg t' := ⟨fun pins s σ H v u Q I r q => h.run pins s σ H v u Q I r (i v σ H Q q)⟩
theorem PGs_imp {X : Cx} {tg : List Expr} {t t' : TGs} (h : PGs X tg t) (i : ∀ v σ H Q, t' v σ H Q → t v σ H Q) : PGs X tg t' := ⟨fun pins s σ H v u Q I r q => h.run pins s σ H v u Q I r (i v σ H Q q)⟩
section
variable {X : Cx} {C : CallSem} {G : Nat → Option D} {W : WX} {a b c e : Expr} {A B D' : Xp} {pos : Pos}
theorem dg_name {i : Nat} {x : Str} (h : PG X (.Name x pos) (gName i)) : PG X (.Name x pos) (gT X.kw X.mg (.var i)) :=
  PG_imp h fun v σ H Q ⟨m, ρ, S, d, ρ', ra, re, r, hb, q⟩ => by
    have hb' : some (ρ.set i (some d)) = some ρ' := hb
    cases hb'
    exact q _ (re.set r) fun vs hv => wipe_mem (hv i List.mem_cons_self) _
theorem dgs_nil : PGs X [] (gTs X.kw X.mg .nil) := PGs_imp pgs_nil fun vs σ H Q ⟨m, ρ, S, ds, ρ', ra, re, r, hb, q⟩ => by
  cases ds with
  | nil =>
    have hb' : some ρ = some ρ' := hb
    cases hb'
    cases r
    exact ⟨rfl, q σ re fun _ _ => rfl⟩
  | cons _ _ => cases hb
theorem dgs_cons {es : List Expr} (h1 : PG X e (gT X.kw X.mg A)) (h2 : PGs X es (gTs X.kw X.mg B)) (hs : (assignEach (e :: es) X.env).map (·.2) = assign e X.env :: (assignEach es X.env).map (·.2) := by rfl) :
    PGs X (e :: es) (gTs X.kw X.mg (.cons A B)) := PGs_imp (pgs_cons h1 h2 hs) fun vs σ H Q ⟨m, ρ, S, ds, ρ', ra, re, r, hb, q⟩ => by
  cases ds with
  | nil => cases hb
  | cons d ds =>
    cases r with
    | cons r1 r2 =>
      have hb' : ((bindT A d ρ).bind fun ρ1 => bindL B ds ρ1) = some ρ' := hb
      cases h : bindT A d ρ with
      | none => rw [h] at hb'; cases hb'
      | some ρ1 =>
        rw [h] at hb'
        refine ⟨_, _, rfl, m, ρ, S, d, ρ1, ra, re, r1, h, fun σ1 re1 w1 => ?_⟩
        refine ⟨m, ρ1, S, ds, ρ', ra, re1, r2, hb', fun σ2 re2 w2 => ?_⟩
        exact q σ2 re2 fun vs hv => (w2 vs fun i hi => hv i (List.mem_append_right _ hi)).trans (w1 vs fun i hi => hv i (List.mem_append_left _ hi))
theorem dg_tup {es : List Expr} {k n : Nat} (hc : X.calm = true) (h : PGs X es (gTs X.kw X.mg A)) (hn : (assignEach es X.env).length = n := by rfl) (hst : (assignEach es X.env).findIdx? (·.1) = none := by rfl)
    (hl : ∀ ds ρ ρ', bindL A ds ρ = some ρ' → ds.length = n := by intro ds ρ ρ' z; exact bindL_len z) : PG X (.Tuple es k pos) (gT X.kw X.mg (.tup A)) :=
  PG_imp (pg_tup hc h hn hst) fun v σ H Q ⟨m, ρ, S, d, ρ', ra, re, r, hb, q⟩ => by
    cases r with
    | @tup p vs ds t hs =>
      have hb' : bindL A ds ρ = some ρ' := hb
      exact ⟨p, vs, rfl, t.t, hs.length.trans (hl ds ρ ρ' hb'), m, ρ, S, ds, ρ', ra, re, hs, hb', fun σ' re' w => q σ' re' w⟩
    | _ => cases hb
end
def lenX : Xp → Nat
  | .cons _ b => lenX b + 1
  | _ => 0
theorem bindL_len : ∀ {A : Xp} {ds : List D} {ρ ρ' : Env}, bindL A ds ρ = some ρ' → ds.length = lenX A
  | .nil, [], _, _, _ => rfl
  | .cons a b, d :: ds, ρ, ρ', h => by
    have h' : ((bindT a d ρ).bind fun ρ1 => bindL b ds ρ1) = some ρ' := h
    cases q : bindT a d ρ with
    | none => rw [q] at h'; cases h'
    | some ρ1 =>
      rw [q] at h'
      show ds.length + 1 = lenX b + 1
      rw [bindL_len (A := b) h']
  | .nil, _ :: _, _, _, h => by cases h
  | .cons _ _, [], _, _, h => by cases h
section
variable {K : KW} {mg : Str → Option Value} {m0 : Mp} {H0 : Hp}
theorem src_lst {n : Nat} {a : Addr} {b : Bool} (t : m0[n]? = some (a, b)) : SrcOk K mg m0 H0 (.lst n) (Itl K a) := fun m H S i l ra => by
  have t' := l.pre _ _ t
  refine ⟨fun h => ?_, fun d h => ?_⟩
  · have h' : (lstAt S n).map (fun ds => ds[i]?) = some none := h
    cases q : lstAt S n with
    | none => rw [q] at h'; cases h'
    | some ds =>
      rw [q] at h'
      obtain ⟨vs, h1, h2⟩ := ra.seq t' q
      have h3 : ds[i]? = none := Option.some.inj h'
      exact ⟨vs, h1, by rw [h2.length]; exact List.getElem?_eq_none_iff.mp h3⟩
  · have h' : (lstAt S n).map (fun ds => ds[i]?) = some (some d) := h
    cases q : lstAt S n with
    | none => rw [q] at h'; cases h'
    | some ds =>
      rw [q] at h'
      obtain ⟨vs, h1, h2⟩ := ra.seq t' q
      have h3 : ds[i]? = some d := Option.some.inj h'
      obtain ⟨v, h4, h5⟩ := h2.get h3
      refine ⟨⟨vs, v, h1, h4⟩, fun x H' ⟨e, f⟩ => ?_⟩
      subst e
      have : x = v := Option.some.inj ((f vs h1).symm.trans h4)
      subst this
      exact ⟨Le.refl _ _, ra, h5⟩
theorem src_tup {a : Addr} {vs : List V} {ds : List D} (t : SqU K H0 a vs) (hs : Rps K mg m0 H0 ds vs) : SrcOk K mg m0 H0 (.ds ds) (Itt K a) := fun m H S i l ra => by
  have t' : SqT K H a vs := (sqT_lt l t).t
  have hs' := hs.mov l
  refine ⟨fun h => ?_, fun d h => ?_⟩
  · have h' : ds[i]? = none := Option.some.inj h
    exact ⟨vs, t', by rw [hs'.length]; exact List.getElem?_eq_none_iff.mp h'⟩
  · have h' : ds[i]? = some d := Option.some.inj h
    obtain ⟨v, h4, h5⟩ := hs'.get h'
    refine ⟨⟨vs, v, t', h4⟩, fun x H' ⟨e, f⟩ => ?_⟩
    subst e
    have : x = v := Option.some.inj ((f vs t').symm.trans h4)
    subst this
    exact ⟨Le.refl _ _, ra, h5⟩
theorem src_str {z : Str} : SrcOk K mg m0 H0 (.ds (z.cps.toList.map fun c => .str ⟨#[c]⟩)) (Its z) := fun m H S i l ra => by
  have g : (z.cps.toList.map fun c => D.str ⟨#[c]⟩)[i]? = (z.cps[i]?).map fun c => D.str ⟨#[c]⟩ := by
    rw [List.getElem?_map, Array.getElem?_toList]
  refine ⟨fun h => ?_, fun d h => ?_⟩
  · have h' : (z.cps.toList.map fun c => D.str ⟨#[c]⟩)[i]? = none := Option.some.inj h
    rw [g] at h'
    exact Array.getElem?_eq_none_iff.mp (Option.map_eq_none_iff.mp h')
  · have h' : (z.cps.toList.map fun c => D.str ⟨#[c]⟩)[i]? = some d := Option.some.inj h
    rw [g] at h'
    cases q : z.cps[i]? with
    | none => rw [q] at h'; cases h'
    | some c =>
      rw [q] at h'
      cases h'
      refine ⟨(Array.getElem?_eq_some_iff.mp q).1, fun x H' ⟨e, c', hc, hx⟩ => ?_⟩
      subst e
      rw [q] at hc
      cases hc
      subst hx
      exact ⟨Le.refl _ _, ra, .str _⟩
theorem rangeD_get {lo : Int} {n i : Nat} : (rangeD lo n)[i]? = if i < n then some (.int (lo + (i : Nat))) else none := by
  unfold rangeD
  rw [List.getElem?_map]
  by_cases h : i < n
  · rw [List.getElem?_range h, if_pos h]
    rfl
  · rw [if_neg h, List.getElem?_eq_none (by simpa using h)]
    rfl
theorem src_rng {lo : Int} {n : Nat} : SrcOk K mg m0 H0 (.ds (rangeD lo n)) (Itr lo n) := fun m H S i l ra => by
  refine ⟨fun h => ?_, fun d h => ?_⟩
  · have h' : (rangeD lo n)[i]? = none := Option.some.inj h
    rw [rangeD_get] at h'
    by_cases c : i < n
    · rw [if_pos c] at h'; cases h'
    · exact Nat.le_of_not_lt c
  · have h' : (rangeD lo n)[i]? = some d := Option.some.inj h
    rw [rangeD_get] at h'
    by_cases c : i < n
    · rw [if_pos c] at h'
      cases h'
      refine ⟨c, fun x H' ⟨e, f⟩ => ?_⟩
      subst e
      subst f
      exact ⟨Le.refl _ _, ra, .int _⟩
    · rw [if_neg c] at h'; cases h'
theorem pair_new {m : Mp} {H : Hp} {S : Sto} {T : Addr} {x y : V} {d e : D} (ra : RelA K mg m H S) (hT : H T = none) (rx : Rp K mg m H d x) (ry : Rp K mg m H e y) :
    Le m m H (upd H T (.tup [x, y])) ∧ RelA K mg m (upd H T (.tup [x, y])) S ∧ Rp K mg m (upd H T (.tup [x, y])) (.tup [d, e]) (.ref T) :=
  ⟨Le.new hT, ra.new hT, .tup (.inl upd_same) (.cons (rx.mono (Le.new hT)) (.cons (ry.mono (Le.new hT)) .nil))⟩
theorem src_fl {a : Addr} {o : Obj} {vs : List V} {ds : List D} (t : H0 a = some (.frz o (.lst vs))) (hs : Rps K mg m0 H0 ds vs) : SrcOk K mg m0 H0 (.ds ds) (Itl K a) := fun m H S i l ra => by
  have t' : SqL K H a vs := .inl (.inr ⟨o, l.fz _ _ _ t⟩)
  have hs' := hs.mov l
  refine ⟨fun h => ?_, fun d h => ?_⟩
  · have h' : ds[i]? = none := Option.some.inj h
    exact ⟨vs, t', by rw [hs'.length]; exact List.getElem?_eq_none_iff.mp h'⟩
  · have h' : ds[i]? = some d := Option.some.inj h
    obtain ⟨v, h4, h5⟩ := hs'.get h'
    refine ⟨⟨vs, v, t', h4⟩, fun x H' ⟨e, f⟩ => ?_⟩
    subst e
    have : x = v := Option.some.inj ((f vs t').symm.trans h4)
    subst this
    exact ⟨Le.refl _ _, ra, h5⟩
theorem src_zipM {n : Nat} {a a' : Addr} {b : Bool} {o' : Obj} {ws : List V} {es : List D} (t : m0[n]? = some (a, b)) (u : H0 a' = some (.frz o' (.lst ws))) (hs2 : Rps K mg m0 H0 es ws) : SrcOk K mg m0 H0 (.zipF n es) (Itz K a a') := fun m H S i l ra => by
  have t' := l.pre _ _ t
  have u' : SqL K H a' ws := .inl (.inr ⟨o', l.fz _ _ _ u⟩)
  have h4 := hs2.mov l
  have key : ∀ o, (Src.zipF n es).get i S = some o → ∃ ds vs, SqL K H a vs ∧ Rps K mg m H ds vs ∧ o = (ds[i]?.bind fun x => es[i]?.map fun y => D.tup [x, y]) := fun o h => by
    have h' : ((lstAt S n).map fun a => a[i]?.bind fun x => es[i]?.map fun y => D.tup [x, y]) = some o := h
    cases q : lstAt S n with
    | none => rw [q] at h'; cases h'
    | some ds =>
      rw [q] at h'
      obtain ⟨vs, h1, h2⟩ := ra.seq t' q
      exact ⟨ds, vs, h1, h2, (Option.some.inj h').symm⟩
  refine ⟨fun h => ?_, fun d h => ?_⟩
  · obtain ⟨ds, vs, h1, h3, e⟩ := key none h
    refine ⟨vs, ws, h1, u', ?_⟩
    rw [h3.length, h4.length]
    cases q : ds[i]? with
    | none => exact .inl (List.getElem?_eq_none_iff.mp q)
    | some x =>
      cases q2 : es[i]? with
      | none => exact .inr (List.getElem?_eq_none_iff.mp q2)
      | some y => rw [q, q2] at e; cases e
  · obtain ⟨ds, vs, h1, h3, e⟩ := key (some d) h
    cases q : ds[i]? with
    | none => rw [q] at e; cases e
    | some x =>
      cases q2 : es[i]? with
      | none => rw [q, q2] at e; cases e
      | some y =>
        rw [q, q2] at e
        cases e
        obtain ⟨v, g1, r1⟩ := h3.get q
        obtain ⟨w, g2, r2⟩ := h4.get q2
        refine ⟨⟨vs, ws, v, w, h1, u', g1, g2⟩, fun z H' ⟨T, v', w', e1, hT, e2, f1, f2⟩ => ?_⟩
        have ev : v' = v := Option.some.inj ((f1 vs h1).symm.trans g1)
        have ew : w' = w := Option.some.inj ((f2 ws u').symm.trans g2)
        subst ev ew e1 e2
        exact pair_new ra hT r1 r2
theorem src_zipF {a a' : Addr} {o o' : Obj} {vs ws : List V} {ds es : List D} (t : H0 a = some (.frz o (.lst vs))) (hs : Rps K mg m0 H0 ds vs) (u : H0 a' = some (.frz o' (.lst ws))) (hs2 : Rps K mg m0 H0 es ws) :
    SrcOk K mg m0 H0 (.ds ((ds.zip es).map fun p => .tup [p.1, p.2])) (Itz K a a') := fun m H S i l ra => by
  have t' : SqL K H a vs := .inl (.inr ⟨o, l.fz _ _ _ t⟩)
  have u' : SqL K H a' ws := .inl (.inr ⟨o', l.fz _ _ _ u⟩)
  have h3 := hs.mov l
  have h4 := hs2.mov l
  refine ⟨fun h => ?_, fun d h => ?_⟩
  · have h' : ((ds.zip es).map fun p => D.tup [p.1, p.2])[i]? = none := Option.some.inj h
    have h5 := List.getElem?_eq_none_iff.mp h'
    rw [List.length_map, List.length_zip] at h5
    refine ⟨vs, ws, t', u', ?_⟩
    rw [h3.length, h4.length]
    omega
  · have h' : ((ds.zip es).map fun p => D.tup [p.1, p.2])[i]? = some d := Option.some.inj h
    rw [List.getElem?_map] at h'
    cases q0 : (ds.zip es)[i]? with
    | none => rw [q0] at h'; cases h'
    | some p =>
      rw [q0] at h'
      cases h'
      obtain ⟨x, y⟩ := p
      obtain ⟨q, q2⟩ := List.getElem?_zip_eq_some.mp q0
      obtain ⟨v, g1, r1⟩ := h3.get q
      obtain ⟨w, g2, r2⟩ := h4.get q2
      refine ⟨⟨vs, ws, v, w, t', u', g1, g2⟩, fun z H' ⟨T, v', w', e1, hT, e2, f1, f2⟩ => ?_⟩
      have ev : v' = v := Option.some.inj ((f1 vs t').symm.trans g1)
      have ew : w' = w := Option.some.inj ((f2 ws u').symm.trans g2)
      subst ev ew e1 e2
      exact pair_new ra hT r1 r2
theorem src_zip {n k : Nat} {a a' : Addr} {b b' : Bool} (t : m0[n]? = some (a, b)) (u : m0[k]? = some (a', b')) : SrcOk K mg m0 H0 (.zip n k) (Itz K a a') := fun m H S i l ra => by
  have t' := l.pre _ _ t
  have u' := l.pre _ _ u
  have key : ∀ o, (Src.zip n k).get i S = some o → ∃ ds es vs ws, SqL K H a vs ∧ SqL K H a' ws ∧ Rps K mg m H ds vs ∧ Rps K mg m H es ws ∧ o = (ds[i]?.bind fun x => es[i]?.map fun y => D.tup [x, y]) := fun o h => by
    have h' : ((lstAt S n).bind fun a => (lstAt S k).map fun b => a[i]?.bind fun x => b[i]?.map fun y => D.tup [x, y]) = some o := h
    cases q : lstAt S n with
    | none => rw [q] at h'; cases h'
    | some ds =>
      cases q2 : lstAt S k with
      | none => rw [q, q2] at h'; cases h'
      | some es =>
        rw [q, q2] at h'
        obtain ⟨vs, h1, h2⟩ := ra.seq t' q
        obtain ⟨ws, h3, h4⟩ := ra.seq u' q2
        exact ⟨ds, es, vs, ws, h1, h3, h2, h4, (Option.some.inj h').symm⟩
  refine ⟨fun h => ?_, fun d h => ?_⟩
  · obtain ⟨ds, es, vs, ws, h1, h2, h3, h4, e⟩ := key none h
    refine ⟨vs, ws, h1, h2, ?_⟩
    rw [h3.length, h4.length]
    cases q : ds[i]? with
    | none => exact .inl (List.getElem?_eq_none_iff.mp q)
    | some x =>
      cases q2 : es[i]? with
      | none => exact .inr (List.getElem?_eq_none_iff.mp q2)
      | some y => rw [q, q2] at e; cases e
  · obtain ⟨ds, es, vs, ws, h1, h2, h3, h4, e⟩ := key (some d) h
    cases q : ds[i]? with
    | none => rw [q] at e; cases e
    | some x =>
      cases q2 : es[i]? with
      | none => rw [q, q2] at e; cases e
      | some y =>
        rw [q, q2] at e
        cases e
        obtain ⟨v, g1, r1⟩ := h3.get q
        obtain ⟨w, g2, r2⟩ := h4.get q2
        refine ⟨⟨vs, ws, v, w, h1, h2, g1, g2⟩, fun z H' ⟨T, v', w', e1, hT, e2, f1, f2⟩ => ?_⟩
        have ev : v' = v := Option.some.inj ((f1 vs h1).symm.trans g1)
        have ew : w' = w := Option.some.inj ((f2 ws h2).symm.trans g2)
        subst ev ew e1 e2
        exact pair_new ra hT r1 r2
theorem src_zipFT {a a' : Addr} {o : Obj} {vs ws : List V} {ds es : List D} (t : H0 a = some (.frz o (.lst vs))) (hs : Rps K mg m0 H0 ds vs) (u : SqU K H0 a' ws) (hs2 : Rps K mg m0 H0 es ws) :
    SrcOk K mg m0 H0 (.ds ((ds.zip es).map fun p => .tup [p.1, p.2])) (ItzK true false K a a') := fun m H S i l ra => by
  have t' : SqL K H a vs := .inl (.inr ⟨o, l.fz _ _ _ t⟩)
  have u' : SqT K H a' ws := (sqT_lt l u).t
  have h3 := hs.mov l
  have h4 := hs2.mov l
  refine ⟨fun h => ?_, fun d h => ?_⟩
  · have h' : ((ds.zip es).map fun p => D.tup [p.1, p.2])[i]? = none := Option.some.inj h
    have h5 := List.getElem?_eq_none_iff.mp h'
    rw [List.length_map, List.length_zip] at h5
    refine ⟨vs, ws, t', u', ?_⟩
    rw [h3.length, h4.length]
    omega
  · have h' : ((ds.zip es).map fun p => D.tup [p.1, p.2])[i]? = some d := Option.some.inj h
    rw [List.getElem?_map] at h'
    cases q0 : (ds.zip es)[i]? with
    | none => rw [q0] at h'; cases h'
    | some p =>
      rw [q0] at h'
      cases h'
      obtain ⟨x, y⟩ := p
      obtain ⟨q, q2⟩ := List.getElem?_zip_eq_some.mp q0
      obtain ⟨v, g1, r1⟩ := h3.get q
      obtain ⟨w, g2, r2⟩ := h4.get q2
      refine ⟨⟨vs, ws, v, w, t', u', g1, g2⟩, fun z H' ⟨T, v', w', e1, hT, e2, f1, f2⟩ => ?_⟩
      have ev : v' = v := Option.some.inj ((f1 vs t').symm.trans g1)
      have ew : w' = w := Option.some.inj ((f2 ws u').symm.trans g2)
      subst ev ew e1 e2
      exact pair_new ra hT r1 r2
theorem src_zipT {a a' : Addr} {vs ws : List V} {ds es : List D} (t : SqU K H0 a vs) (hs : Rps K mg m0 H0 ds vs) (u : SqU K H0 a' ws) (hs2 : Rps K mg m0 H0 es ws) :
    SrcOk K mg m0 H0 (.ds ((ds.zip es).map fun p => .tup [p.1, p.2])) (RZ.ItzT K a a') := fun m H S i l ra => by
  have t' : SqT K H a vs := (sqT_lt l t).t
  have u' : SqT K H a' ws := (sqT_lt l u).t
  have h3 := hs.mov l
  have h4 := hs2.mov l
  refine ⟨fun h => ?_, fun d h => ?_⟩
  · have h' : ((ds.zip es).map fun p => D.tup [p.1, p.2])[i]? = none := Option.some.inj h
    have h5 := List.getElem?_eq_none_iff.mp h'
    rw [List.length_map, List.length_zip] at h5
    refine ⟨vs, ws, t', u', ?_⟩
    rw [h3.length, h4.length]
    omega
  · have h' : ((ds.zip es).map fun p => D.tup [p.1, p.2])[i]? = some d := Option.some.inj h
    rw [List.getElem?_map] at h'
    cases q0 : (ds.zip es)[i]? with
    | none => rw [q0] at h'; cases h'
    | some p =>
      rw [q0] at h'
      cases h'
      obtain ⟨x, y⟩ := p
      obtain ⟨q, q2⟩ := List.getElem?_zip_eq_some.mp q0
      obtain ⟨v, g1, r1⟩ := h3.get q
      obtain ⟨w, g2, r2⟩ := h4.get q2
      refine ⟨⟨vs, ws, v, w, t', u', g1, g2⟩, fun z H' ⟨T, v', w', e1, hT, e2, f1, f2⟩ => ?_⟩
      have ev : v' = v := Option.some.inj ((f1 vs t').symm.trans g1)
      have ew : w' = w := Option.some.inj ((f2 ws u').symm.trans g2)
      subst ev ew e1 e2
      exact pair_new ra hT r1 r2
end
section
variable {X : Cx} {C : CallSem} {G : Nat → Option D} {W : WX} {a b c e tg : Expr} {A B D' : Xp} {pos : Pos}
theorem di_itr (ha : PE X a (tD X C G W A)) : PI X tg a (tDi X C G W (.itr A)) := by
  refine ⟨fun pins s σ H R' I ⟨m, ρ, S, ra, re, p⟩ => ?_⟩
  have p0 : Post X.kw X.mg (fun c d H' => W c d σ H') (SrcOk X.kw X.mg) m H ((ev C G A ρ S).bind fun x S1 => R.opt (srcOf x S1) S1) R' := p
  cases q : ev C G A ρ S with
  | bad => rw [q] at p0; exact p0.elim
  | exc cc pp SS =>
    rw [q] at p0
    exact (pi_list ha).run pins s σ H R' I ⟨m, ρ, S, ra, re, by rw [q]; exact p0⟩
  | ok d S1 =>
    rw [q] at p0
    have p1 : Post X.kw X.mg (fun c d H' => W c d σ H') (SrcOk X.kw X.mg) m H (R.opt (srcOf d S1) S1) R' := p0
    obtain ⟨src, hsrc, p2⟩ := post_opt p1
    cases d with
    | fl ds =>
      cases hsrc
      refine (pi_list ha).run pins s σ H R' I ⟨m, ρ, S, ra, re, ?_⟩
      rw [q]
      intro m' H' v l ra' rp
      cases rp with
      | fl t hs => exact ⟨_, rfl, ⟨_, .inl (.inr ⟨_, t⟩)⟩, p2 m' H' _ l ra' (src_fl t hs)⟩
    | tup ds =>
      cases hsrc
      refine (pi_tup ha).run pins s σ H R' I ⟨m, ρ, S, ra, re, ?_⟩
      rw [q]
      intro m' H' v l ra' rp
      cases rp with
      | tup t hs => exact ⟨_, rfl, ⟨_, t.t⟩, p2 m' H' _ l ra' (src_tup t hs)⟩
    | loc n =>
      have hsrc' : (lstAt S1 n).map (fun _ => Src.lst n) = some src := hsrc
      cases q2 : lstAt S1 n with
      | none => rw [q2] at hsrc'; cases hsrc'
      | some ds =>
        rw [q2] at hsrc'
        cases hsrc'
        refine (pi_list ha).run pins s σ H R' I ⟨m, ρ, S, ra, re, ?_⟩
        rw [q]
        intro m' H' v l ra' rp
        cases rp with
        | loc t =>
          obtain ⟨vs, h1, h2⟩ := ra'.seq t q2
          exact ⟨_, rfl, ⟨vs, h1⟩, p2 m' H' _ l ra' (src_lst t)⟩
    | str z =>
      cases hsrc
      refine (pi_str ha).run pins s σ H R' I ⟨m, ρ, S, ra, re, ?_⟩
      rw [q]
      intro m' H' v l ra' rp
      cases rp
      exact ⟨z, rfl, p2 m' H' _ l ra' src_str⟩
    | _ => cases hsrc
theorem small_62 {i : Int} (h : small62 i = true) : -(2 ^ 62) ≤ i ∧ i < 2 ^ 62 := by
  obtain ⟨h1, h2⟩ := Bool.and_eq_true_iff.mp h
  exact ⟨of_decide_eq_true h1, of_decide_eq_true h2⟩
theorem di_rng1 {p : Pos} {cb : Bool} (cx : Ctx cb X) (hg : Gl X "range") (ha : PE X a (tD X C G W A)) (hs : starEach [a] X.env = [(false, eval a X.env)] := by rfl) : PI X tg (.Call (.Name "range" p) [a] [] pos) (tDi X C G W (.rng1 A)) :=
  PI_imp (pi_range1 hg (cx.nob "range" (by decide +kernel)) (da_cons ha da_nil hs) hs) fun σ H R' ⟨m, ρ, S, ra, re, p⟩ => by
    refine ⟨m, ρ, S, ra, re, ?_⟩
    have p0 : Post X.kw X.mg (fun c d H' => W c d σ H') (SrcOk X.kw X.mg) m H ((asI (ev C G A ρ S)).bind fun i S1 => if small62 i then .ok (.ds (rangeD 0 i.toNat)) S1 else .bad) R' := p
    show Post X.kw X.mg (fun c d H' => W c d σ H') (Rps X.kw X.mg) m H ((ev C G A ρ S).bind fun x S1 => .ok [x] S1) _
    cases q : ev C G A ρ S with
    | bad => rw [q] at p0; exact p0
    | exc cc pp SS => rw [q] at p0; exact p0
    | ok d S1 =>
      rw [q] at p0
      cases d with
      | int i =>
        have p1 : Post X.kw X.mg (fun c d H' => W c d σ H') (SrcOk X.kw X.mg) m H (if small62 i then .ok (.ds (rangeD 0 i.toNat)) S1 else .bad) R' := p0
        by_cases cc : small62 i = true
        · rw [if_pos cc] at p1
          intro m' H' vs l ra' rp
          obtain ⟨v, rfl, rv⟩ := rps1 rp
          cases rv
          obtain ⟨c1, c2⟩ := small_62 cc
          exact ⟨i, rfl, c1, c2, p1 m' H' _ l ra' src_rng⟩
        · rw [if_neg cc] at p1
          exact p1.elim
      | _ => exact p0.elim
theorem di_zip2 {p tpos : Pos} {elts : List Expr} {kk : Nat} {cb : Bool} (cx : Ctx cb X) (hg : Gl X "zip") (ha : PE X a (tD X C G W A)) (hb : PE X b (tD X C G W B))
    (hs2 : starEach [b] X.env = (false, eval b X.env) :: starEach [] X.env := by rfl)
    (hs : starEach [a, b] X.env = (false, eval a X.env) :: starEach [b] X.env := by rfl) (hpl : (backTo pos (starEach [b] X.env)).any (·.1) = false := by rfl) :
    PI X (.Tuple elts kk tpos) (.Call (.Name "zip" p) [a, b] [] pos) (tDi X C G W (.zip2 A B)) :=
  PI_imp (pi_zipK hg (cx.nob "zip" (by decide +kernel)) (da_cons ha (da_cons hb da_nil hs2) hs) hs hpl) fun σ H R' ⟨m, ρ, S, ra, re, p⟩ => by
    refine ⟨m, ρ, S, ra, re, ?_⟩
    have p0 : Post X.kw X.mg (fun c d H' => W c d σ H') (SrcOk X.kw X.mg) m H ((ev C G A ρ S).bind fun x S1 => (ev C G B ρ S1).bind fun y S2 => match x, y with
      | .loc n, .loc k => match lstAt S2 n, lstAt S2 k with
        | some _, some _ => .ok (.zip n k) S2
        | _, _ => .bad
      | .tup xs, .tup ys => .ok (.ds ((xs.zip ys).map fun p => .tup [p.1, p.2])) S2
      | .fl xs, .fl ys => .ok (.ds ((xs.zip ys).map fun p => .tup [p.1, p.2])) S2
      | .fl xs, .tup ys => .ok (.ds ((xs.zip ys).map fun p => .tup [p.1, p.2])) S2
      | .loc n, .fl ys => match lstAt S2 n with
        | some _ => .ok (.zipF n ys) S2
        | none => .bad
      | _, _ => .bad) R' := p
    show Post X.kw X.mg (fun c d H' => W c d σ H') (Rps X.kw X.mg) m H ((ev C G A ρ S).bind fun x S1 => ((ev C G B ρ S1).bind fun y S2 => .ok [y] S2).bind fun xs S2 => .ok (x :: xs) S2) _
    cases q : ev C G A ρ S with
    | bad => rw [q] at p0; exact p0
    | exc cc pp SS => rw [q] at p0; exact p0
    | ok d S1 =>
      rw [q] at p0
      simp only [R.bind_ok] at p0 ⊢
      cases q1 : ev C G B ρ S1 with
      | bad => rw [q1] at p0; exact p0
      | exc cc pp SS => rw [q1] at p0; exact p0
      | ok d2 S2 =>
        rw [q1] at p0
        simp only [R.bind_ok] at p0 ⊢
        intro m' H' vs l ra' rp
        obtain ⟨v, w, rfl, rv, rw'⟩ := rps2 rp
        cases rv with
        | loc t =>
          rename_i n1 a1 b1
          cases rw' with
          | loc u =>
            rename_i n2 a2 b2
            cases h1 : lstAt S2 n1 with
            | none => simp only [h1] at p0; exact p0.elim
            | some ds =>
              cases h2 : lstAt S2 n2 with
              | none => simp only [h1, h2] at p0; exact p0.elim
              | some es =>
                simp only [h1, h2] at p0
                obtain ⟨vs, g1, _⟩ := ra'.seq t h1
                obtain ⟨ws, g2, _⟩ := ra'.seq u h2
                exact ⟨true, true, _, _, vs, ws, rfl, g1, g2, p0 m' H' _ l ra' (src_zip t u)⟩
          | fl u hs2 =>
            cases h1 : lstAt S2 n1 with
            | none => simp only [h1] at p0; exact p0.elim
            | some ds =>
              simp only [h1] at p0
              obtain ⟨vs, g1, _⟩ := ra'.seq t h1
              exact ⟨true, true, _, _, vs, _, rfl, g1, .inl (.inr ⟨_, u⟩), p0 m' H' _ l ra' (src_zipM t u hs2)⟩
          | _ => exact p0.elim
        | tup t hs =>
          cases rw' with
          | tup u hs2 => exact ⟨false, false, _, _, _, _, rfl, t.t, u.t, p0 m' H' _ l ra' (src_zipT t hs u hs2)⟩
          | _ => exact p0.elim
        | fl t hs =>
          cases rw' with
          | fl u hs2 => exact ⟨true, true, _, _, _, _, rfl, .inl (.inr ⟨_, t⟩), .inl (.inr ⟨_, u⟩), p0 m' H' _ l ra' (src_zipF t hs u hs2)⟩
          | tup u hs2 => exact ⟨true, false, _, _, _, _, rfl, .inl (.inr ⟨_, t⟩), u.t, p0 m' H' _ l ra' (src_zipFT t hs u hs2)⟩
          | _ => exact p0.elim
        | _ => cases rw' <;> exact p0.elim
end
end CC
namespace CC
open PySem PySem.Spec PyProof.Rows L2
abbrev W00 : WX := fun _ _ _ _ => False
theorem wipe_wipe (σ : L2.St) (vs : List Nat) : wipe (wipe σ vs) vs = wipe σ vs := by
  suffices h : ∀ (ws : List Nat), (∀ i ∈ ws, i ∈ vs) → wipe (wipe σ ws) vs = wipe σ vs by exact h vs fun _ z => z
  intro ws
  induction ws with
  | nil => intro _; rfl
  | cons w ws ih =>
    intro hw
    show wipe ((wipe σ ws).set w none) vs = _
    rw [wipe_mem (hw w List.mem_cons_self), ih fun i z => hw i (List.mem_cons_of_mem _ z)]
theorem PTs_imp {X : Cx} {e : List Expr} {t t' : TT} (h : PTs X e t) (i : ∀ σ H Q, t' σ H Q → t σ H Q) : PTs X e t' := ⟨fun pins s σ H Q I q => h.run pins s σ H Q I (i σ H Q q)⟩
theorem Ctx.blk {X : Cx} {cb : Bool} (c : Ctx cb X) (s : Shared) (H : Hp) (scope : Scope) (cenv : PySem.Env) (fp : List Addr) : Ctx cb (X.blk s H scope cenv fp) := ⟨c.calm, c.hu, c.nd, c.g, c.nob, c.wm⟩
section
variable {X : Cx} {C : CallSem} {G : Nat → Option D} {W : WX} {a b c e : Expr} {A B D' : Xp} {pos : Pos}
theorem dts_nil : PTs X [] (tDT X C G W (.bl true)) := PTs_imp pts_nil fun σ H Q ⟨m, ρ, S, ra, re, p⟩ => Post.now (v := true) p ra rfl
theorem i_lc {it tg elt cond : Xp} {vs : List Nat} {σ : L2.St} {H : Hp} {Q : VK} (hsl : ∀ i ∈ tslots tg, i ∈ vs) (h : tD X C G W (.lc it tg elt cond vs) σ H Q) :
    tLc (tDi X C G W it) (gT X.kw X.mg tg) (tDT X C G W00 cond) (tD X C G W00 elt) vs σ H Q := by
  obtain ⟨m, ρ, S, ra, re, p⟩ := h
  refine ⟨m, ρ, S, ra, re, Post.imp (Post.bind p) ?_⟩
  rintro J H1 ⟨m1, src, S1, l1, ra1, sok, p1⟩ Dl hD
  let Fin : R (List D) → Prop := fun r => Post X.kw X.mg (fun c d H' => W c d σ H') (Rp X.kw X.mg) m1 H1 (r.bind fun ds S2 => mk (.lst ds) S2) Q
  let L := lcl src tg (fun ρ1 S2 => asT (ev C G cond ρ1 S2)) (fun ρ1 S2 => ev C G elt ρ1 S2) (wipeE ρ vs)
  refine ⟨fun i n H' => ∃ m' S' acc avs, Le m1 m' H1 H' ∧ RelA X.kw X.mg m' H' S' ∧ Rps X.kw X.mg m' H' acc avs ∧ H' Dl = some (.lst avs) ∧ (Dl, false) ∉ m' ∧ Fin (L n i acc S'),
    ⟨src.size S1 + 1, m1, S1, [], [], Le.new hD, ra1.new hD, .nil, upd_same, ra1.notin hD, p1⟩, ?_⟩
  rintro i n H' ⟨m', S', acc, avs, l', ra', hs', hDl, hni, fin⟩
  cases n with
  | zero => exact fin.elim
  | succ n =>
    have fin' : Fin (match src.get i S' with
      | none => .bad
      | some none => .ok acc S'
      | some (some d) => match bindT tg d (wipeE ρ vs) with
        | none => .bad
        | some ρ1 => match asT (ev C G cond ρ1 S') with
          | .ok true S1 => match ev C G elt ρ1 S1 with
            | .ok y S2 => if acc.length < sizeLine then L n (i + 1) (acc ++ [y]) S2 else .bad
            | _ => .bad
          | .ok false S1 => L n (i + 1) acc S1
          | _ => .bad) := fin
    obtain ⟨stop, go⟩ := sok m' H' S' i l'.lt ra'
    cases hg : src.get i S' with
    | none => simp only [hg] at fin'; exact fin'.elim
    | some o =>
      cases o with
      | none =>
        simp only [hg] at fin'
        refine .inl ⟨stop hg, ?_⟩
        have f2 : Post X.kw X.mg (fun c d H' => W c d σ H') (Rp X.kw X.mg) m1 H1 (mk (.lst acc) S') Q := fin'
        refine f2 (m' ++ [(Dl, false)]) H' (.ref Dl) ⟨fun n a h => ?_, l'.tup, l'.fz, l'.ex, fun a u h hn => ?_⟩ (ra'.adopt hDl hni hs') (.loc (ra'.at_new Dl))
        · have := l'.pre n a h
          rw [List.getElem?_append_left (List.getElem?_eq_some_iff.mp this).1]
          exact this
        · obtain ⟨h1, h2⟩ := l'.frame a u h hn
          refine ⟨h1, fun z => ?_⟩
          rcases List.mem_append.mp z with z | z
          · exact h2 z
          · exact ne_of_none h hD (by simpa using z)
      | some d =>
        simp only [hg] at fin'
        obtain ⟨g1, g2⟩ := go d hg
        refine .inr ⟨g1, _, fun H'' z => ⟨n, Nat.lt_succ_self n, z⟩, fun x H'' hy => ?_⟩
        obtain ⟨ly, ray, rpx⟩ := g2 x H'' hy
        cases hb : bindT tg d (wipeE ρ vs) with
        | none => simp only [hb] at fin'; exact fin'.elim
        | some ρ1 =>
          simp only [hb] at fin'
          have re0 : RelE X.kw X.mg m' H'' (wipe σ vs) (wipeE ρ vs) := (((re.mono l1).mono l').mono ly).wipe vs
          refine ⟨m', wipeE ρ vs, S', d, ρ1, ray, re0, rpx, hb, fun σ2 re2 w2 => ⟨(w2 vs hsl).trans (wipe_wipe σ vs), m', ρ1, S', ray, re2, ?_⟩⟩
          obtain ⟨hDl2, hni2⟩ := ly.frame Dl _ hDl hni
          cases hc : asT (ev C G cond ρ1 S') with
          | bad => simp only [hc] at fin'; exact fin'.elim
          | exc _ _ _ => simp only [hc] at fin'; exact fin'.elim
          | ok k S2 =>
            show Post X.kw X.mg (fun _ _ _ => False) relEq m' H'' (asT (ev C G cond ρ1 S')) _
            rw [hc]
            intro m3 H3 kk l3 ra3 hk
            have hk' : k = kk := hk
            subst hk'
            obtain ⟨hDl3, hni3⟩ := l3.frame Dl _ hDl2 hni2
            cases k with
            | false =>
              simp only [hc] at fin'
              rw [if_neg (by decide)]
              exact ⟨m3, S2, acc, avs, (l'.trans ly).trans l3, ra3, (hs'.mono ly).mono l3, hDl3, hni3, fin'⟩
            | true =>
              simp only [hc] at fin'
              rw [if_pos rfl]
              refine ⟨m3, ρ1, S2, ra3, re2.mono l3, ?_⟩
              show Post X.kw X.mg (fun _ _ _ => False) (Rp X.kw X.mg) m3 H3 (ev C G elt ρ1 S2) _
              cases he : ev C G elt ρ1 S2 with
              | bad => simp only [he] at fin'; exact fin'.elim
              | exc _ _ _ => simp only [he] at fin'; exact fin'.elim
              | ok y S3 =>
                simp only [he] at fin'
                by_cases cc : acc.length < sizeLine
                · rw [if_pos cc] at fin'
                  intro m4 H4 v l4 ra4 rv
                  obtain ⟨hDl4, hni4⟩ := l4.frame Dl _ hDl3 hni3
                  refine ⟨avs, hDl4, by rw [hs'.length]; exact cc, m4, S3, acc ++ [y], avs ++ [v], (((l'.trans ly).trans l3).trans l4).scratch hD, ra4.scratch hDl4 hni4, ?_, upd_same, hni4, fin'⟩
                  exact ((((hs'.mono ly).mono l3).mono l4).append (.cons rv .nil)).mov (Lt.scratch hDl4)
                · rw [if_neg cc] at fin'
                  exact fin'.elim
theorem de_lc {elt tg iter : Expr} {ifs : List Expr} {scope : Scope} {own : List (Str × Nat)} {it tx ex cd : Xp} (cx : Ctx true X) (hi : PI X tg iter (tDi X C G W it)) (ok : BlkOk X.N X.env.scope scope own)
    (hg : ∀ (s : Shared) (H : Hp) (L : Addr) (cl : List (Str × Addr)) (fp : List Addr), PG (X.blk s H scope (compEnvC scope cl L X.env) fp) tg (gT X.kw X.mg tx))
    (ht : ∀ (s : Shared) (H : Hp) (L : Addr) (cl : List (Str × Addr)) (fp : List Addr), PTs (X.blk s H scope (compEnvC scope cl L X.env) fp) ifs (tDT X C G W00 cd))
    (he : ∀ (s : Shared) (H : Hp) (L : Addr) (cl : List (Str × Addr)) (fp : List Addr), PE (X.blk s H scope (compEnvC scope cl L X.env) fp) elt (tD X C G W00 ex))
    (hsl : ∀ i ∈ tslots tx, i ∈ own.map (·.2)) (hs : ∀ x, foldedSetIterable iter X.env x = pure x := by intro _; rfl) :
    PE X (.ListComp elt [⟨tg, iter, ifs, 0⟩] scope pos) (tD X C G W (.lc it tx ex cd (own.map (·.2)))) :=
  PE_imp (pe_lc (cx.calm rfl) cx.nd hi ok hg ht he hs) fun σ H Q h => i_lc hsl h
end
structure FnG (P : Program) (w : World) (K : PySem.W.Frag) (mg : Str → Option Value) (base : Heap) (k : Nat) (f : Addr) (fd : FuncData) (ps : List Str) (cs : List D → Sto → R D) : Prop where
  len : ∀ ds S, cs ds S ≠ .bad → ds.length = ps.length
  run : ∀ (A : Around) (outer : List PySem.Env) (s : Shared) (H : Hp) (args : Args) (us : List Value) (vs : List V) (m : Mp) (ds : List D) (S : Sto) (Q : VK) (E : XK), A.guards = some [] → Room k A → Env0 P w K mg base A outer s H →
    BindsTo s fd args (ps.zip us) → Vals vs us → RelA ⟨K, w, none⟩ mg m H S → Rps ⟨K, w, none⟩ mg m H ds vs → Post ⟨K, w, none⟩ mg E (Rp ⟨K, w, none⟩ mg) m H (cs ds S) Q → codeAny (model P w) A (.call (.ref f) args) (CR (L2N.CX P w) outer P w H s Q E) s
theorem post_nb {K : KW} {mg : Str → Option Value} {W : XK} {α β : Type} {rel : Mp → Hp → α → β → Prop} {m : Mp} {H : Hp} {r : R α} {Q : β → Hp → Prop} (h : Post K mg W rel m H r Q) : r ≠ .bad := by
  intro z
  rw [z] at h
  exact h
theorem FnG.mono {P : Program} {w : World} {K : PySem.W.Frag} {mg : Str → Option Value} {base : Heap} {j k : Nat} {f : Addr} {fd : FuncData} {ps : List Str} {cs : List D → Sto → R D} (F : FnG P w K mg base j f fd ps cs) (h : j ≤ k) : FnG P w K mg base k f fd ps cs :=
  ⟨F.len, fun A outer s H args us vs m ds S Q E g hr => F.run A outer s H args us vs m ds S Q E g (hr.mono h)⟩
theorem fnG_of {P : Program} {w : World} {K : PySem.W.Frag} {mg : Str → Option Value} {base : Heap} {k : Nat} {f : Addr} {x qual : Str} {st : Stmt} {fd : FuncData} {N ps : List Str} {cs : List D → Sto → R D} (F : Fun K x qual st f fd) (sc : FnScope N ps (defScope st))
    (len : ∀ ds S, cs ds S ≠ .bad → ds.length = ps.length)
    (hb : ∀ (cdv : Value) (A : Around) (outer : List PySem.Env) (s : Shared) (H : Hp) (vs : List V) (m : Mp) (ds : List D) (S : Sto) (Q : VK) (E : XK), A.guards = some [] → Room k (A.deeper (envOfC qual (defScope st) s.heap.objs.size f cdv)) →
      RelA ⟨K, w, none⟩ mg m H S → Rps ⟨K, w, none⟩ mg m H ds vs → Post ⟨K, w, none⟩ mg E (Rp ⟨K, w, none⟩ mg) m H (cs ds S) Q →
      ∃ t, PSs (cxOf (L2N.CX P w) P w K mg base N qual (defScope st) f cdv A outer s H E) (defBody st) t ∧ t { nx := fun _ H' => Q .non H', rt := Q } (start N vs) H) : FnG P w K mg base (k + 1) f fd ps cs := by
  obtain ⟨oc, od, kV, doc, pm, an, cdv, ct, osl, rfl, lk, hcd⟩ := F.ex
  refine ⟨len, ?_⟩
  intro A outer s H args us vs m ds S Q E hgd room env hbind rv ra rs post
  have kin : K.In s.heap := env.mod.kin.keeps fun b o z => (env.bs b o z).1
  have nolim : s.heap.NoLimit := env.mod.nolimit.keeps fun b o z => (env.bs b o z).1
  have kinds : ∀ y ∈ ps.zip us, (defScope st).names.lookup y.1 = some .local ∨ ((defScope st).names.lookup y.1 = some .cell ∧ ((cellsFrom (s.heap.objs.size + 1) (defScope st).names []).lookup y.1).isSome = true) := by
    rintro ⟨n, v⟩ hy
    rcases sc.par n (List.of_mem_zip hy).1 with q | q
    · exact .inl q
    · exact .inr ⟨q, PySem.W.cellsFrom_some _ _ _ (.inl q)⟩
  have vlen : vs.length = ps.length := by rw [rs.length]; exact len ds S (post_nb post)
  refine codeAny_call_function room.depth (kin _ _ lk) rfl sc.co sc.gen rfl (PySem.W.codeRec_of kin hcd) (hbind _ _ _ _ ?_)
  refine wpAny_newFunctionEnv_cells sc.kind kinds ?_
  intro env1 henv s1 x1
  subst henv
  refine ⟨nolim.keeps x1.toInCall.keep, codeAny_func ?_⟩
  obtain ⟨t, ht, hq⟩ := hb cdv A outer s H vs m ds S Q E hgd (room.deeper _) ra rs post
  have inv : L2.Inv (cxOf (L2N.CX P w) P w K mg base N qual (defScope st) f cdv A outer s H E) [] (start N vs) H s1 := inv_start sc room.hd env vlen rv x1
  refine wpAny_mono (ht.run [] s1 (start N vs) H _ inv hq) ?_ (fun e s' z => z)
  intro fl s' hs
  have done : ∀ {σ' : L2.St} {H' : Hp} {v : V} {u : Value}, L2.Inv (cxOf (L2N.CX P w) P w K mg base N qual (defScope st) f cdv A outer s H E) [] σ' H' s' → RelV v u → Q v H' → CE outer P w H s Q u s' :=
    fun {σ' H' v u} J r1 q1 => ⟨v, H', J.os, J.bare, J.base, J.hok, r1, q1⟩
  cases fl with
  | next =>
    obtain ⟨_, _, J, q⟩ := hs
    exact done (v := V.non) (u := Value.none) J rfl q
  | ret u =>
    obtain ⟨_, _, _, J, r1, q⟩ := hs
    exact done J r1 q
  | cont => obtain ⟨_, _, _, q⟩ := hs; exact False.elim q
  | brk => obtain ⟨_, _, _, q⟩ := hs; exact False.elim q
theorem kw_calm {X : Cx} {k : Nat} (hr : Room k X.A) : X.kw = ⟨X.K, X.w, none⟩ := by
  show (⟨X.K, X.w, hxA X.A⟩ : KW) = _
  rw [hxA_none hr.hd]
def KB (fd : FuncData) (ps : List Str) (q : Nat × List Str × List Nat) : Prop := ∀ (s : Shared) (us ws zs : List Value), us.length = q.1 → ws.length = q.2.1.length → permL (us ++ ws) q.2.2 = some zs → BindsTo s fd ⟨us, q.2.1.zip ws⟩ (ps.zip zs)
structure FnAt (P : Program) (w : World) (K : PySem.W.Frag) (mg : Str → Option Value) (base : Heap) (k : Nat) (x : Str) (np : Nat) (kw : List (Nat × List Str × List Nat)) (cs : List D → Sto → R D) : Prop where
  ex : ∃ (f : Addr) (fd : FuncData) (ps : List Str), mg x = some (.ref f) ∧ PySem.W.keepIn K (.ref f) = true ∧ ps.length = np ∧ Binds K fd ps [] ∧ (∀ q ∈ kw, KB fd ps q) ∧ FnG P w K mg base k f fd ps cs
structure Calls (P : Program) (w : World) (K : PySem.W.Frag) (mg : Str → Option Value) (base : Heap) (k : Nat) (nm : List Str) (kwt : Nat → List (Nat × List Str × List Nat)) (T : Nat → Option Fd) (C : CallSem) : Prop where
  fn : ∀ i x fd, nm[i]? = some x → T i = some fd → FnAt P w K mg base k x fd.np (kwt i) (C i)
section
variable {X : Cx} {C : CallSem} {G : Nat → Option D} {W : WX} {a b c e : Expr} {A B D' : Xp} {pos : Pos} {k : Nat}
theorem run_g {f : Addr} {fd : FuncData} {ps : List Str} {cs : List D → Sto → R D} {pins : List (Addr × Obj)} {σ : L2.St} {H : Hp} {s : Shared} {Q : VK} {us : List Value} {vs : List V} {m : Mp} {ds : List D} {S : Sto}
    (F : FnG X.prog X.w X.K X.mg X.base k f fd ps cs) {cb : Bool} (cx : Ctx cb X) (hr : Room k X.A) (hb : Binds X.K fd ps []) (tk : L2N.Takes X W) (I : L2.Inv X pins σ H s) (r : Vals vs us) (ra : RelA X.kw X.mg m H S) (rs : Rps X.kw X.mg m H ds vs)
    (h : Post X.kw X.mg (fun c d H' => W c d σ H') (Rp X.kw X.mg) m H (cs ds S) Q) : wpAny (model X.prog X.w) X.A (call (.ref f) us) (EP X pins σ Q) X.xe s := by
  rw [kw_calm hr] at ra rs h
  have hl : us.length = ps.length := by rw [← r.length, rs.length]; exact F.len ds S (post_nb h)
  have hbs : BindsTo s fd ⟨us, []⟩ (ps.zip us) := by
    have z := hb s us I.kIn (by simpa using hl)
    rw [List.append_nil] at z
    exact z
  refine wpAny_call (codeAny_mono (F.run X.A X.stack s H ⟨us, []⟩ us vs m ds S Q _ cx.g hr I.env0 hbs r ra rs h) ?_)
  intro res s' hq
  cases res with
  | error er => exact L2N.passAt tk σ pins H s er s' I hq
  | ok fl =>
    cases fl with
    | ret u => exact I.after hq
    | next => exact False.elim hq
    | brk => exact False.elim hq
    | cont => exact False.elim hq
theorem de_call {i : Nat} {x : Str} {fd : Fd} {nm : List Str} {kwt : Nat → List (Nat × List Str × List Nat)} {T : Nat → Option Fd} {p : Pos} {es : List Expr} (cc : Calls X.prog X.w X.K X.mg X.base k nm kwt T C) (hx : nm[i]? = some x) (hT : T i = some fd) {cb : Bool} (cx : Ctx cb X) (hr : Room k X.A) (tk : L2N.Takes X W) (hg : Gl X x) (ha : PA X (e :: es) (tDs X C G W A))
    (hdb : (x == ("__debug__" : Str)) = false := by decide) (he : starEach (e :: es) X.env = (false, eval e X.env) :: starEach es X.env := by rfl) (hpl : (backTo pos (starEach es X.env)).any (·.1) = false := by rfl) :
    PE X (.Call (.Name x p) (e :: es) [] pos) (tD X C G W (.call i A)) := by
  obtain ⟨f, fd, ps, hm, hk, _, hb, _, F⟩ := (cc.fn i x fd hx hT).ex
  refine ⟨fun pins s σ H Q I ⟨m, ρ, S, ra, re, q⟩ => ?_⟩
  refine wpAny_Call_Name_kw (ld_glob I hg hm ?_ hdb)
  refine PySem.W.callWith_K (h₀ := X.base) I.ok.mod.kin hk (thn (ha.run pos pins s σ H _ I ⟨m, ρ, S, ra, re, Post.bind q⟩) fun us s1 hz => ?_) he hpl
  obtain ⟨vs, H1, I1, r, m1, ds, S1, l1, ra1, rs, q1⟩ := hz
  exact ⟨I1.kIn, run_g F cx hr hb tk I1 r ra1 rs q1⟩
theorem rps_perm {K : KW} {mg : Str → Option Value} {m : Mp} {H : Hp} {ds : List D} {vs : List V} (h : Rps K mg m H ds vs) : ∀ {perm : List Nat} {es : List D}, permL ds perm = some es → ∃ ws, permL vs perm = some ws ∧ Rps K mg m H es ws
  | [], es, e => by
    cases e
    exact ⟨[], rfl, .nil⟩
  | p :: ps, es, e => by
    have e' : ((ds[p]?).bind fun v => (permL ds ps).map (v :: ·)) = some es := e
    cases q : ds[p]? with
    | none => rw [q] at e'; cases e'
    | some d =>
      rw [q] at e'
      cases q2 : permL ds ps with
      | none => rw [q2] at e'; cases e'
      | some r =>
        rw [q2] at e'
        cases e'
        obtain ⟨v, h1, h2⟩ := h.get q
        obtain ⟨ws, h3, h4⟩ := rps_perm h q2
        refine ⟨v :: ws, ?_, .cons h2 h4⟩
        show ((vs[p]?).bind fun v => (permL vs ps).map (v :: ·)) = _
        rw [h1, h3]
        rfl
theorem vals_perm {vs : List V} {us : List Value} (h : Vals vs us) : ∀ {perm : List Nat} {ws : List V}, permL vs perm = some ws → ∃ zs, permL us perm = some zs ∧ Vals ws zs
  | [], es, e => by
    cases e
    exact ⟨[], rfl, .nil⟩
  | p :: ps, es, e => by
    have e' : ((vs[p]?).bind fun v => (permL vs ps).map (v :: ·)) = some es := e
    cases q : vs[p]? with
    | none => rw [q] at e'; cases e'
    | some d =>
      rw [q] at e'
      cases q2 : permL vs ps with
      | none => rw [q2] at e'; cases e'
      | some r =>
        rw [q2] at e'
        cases e'
        obtain ⟨v, h1, h2⟩ := Vals.get h q
        obtain ⟨ws, h3, h4⟩ := vals_perm h q2
        refine ⟨v :: ws, ?_, .cons h2 h4⟩
        show ((us[p]?).bind fun v => (permL us ps).map (v :: ·)) = _
        rw [h1, h3]
        rfl
theorem evs_len {C : CallSem} {G : Nat → Option D} : ∀ {A : Xp} {ρ : Env} {S S' : Sto} {ds : List D}, evs C G A ρ S = .ok ds S' → ds.length = lenX A
  | .nil, ρ, S, S', ds, h => by cases h; rfl
  | .cons a b, ρ, S, S', ds, h => by
    have h' : ((ev C G a ρ S).bind fun x S1 => (evs C G b ρ S1).bind fun xs S2 => R.ok (x :: xs) S2) = .ok ds S' := h
    cases q : ev C G a ρ S with
    | bad => rw [q] at h'; cases h'
    | exc _ _ _ => rw [q] at h'; cases h'
    | ok x S1 =>
      rw [q] at h'
      simp only [R.bind_ok] at h'
      cases q2 : evs C G b ρ S1 with
      | bad => rw [q2] at h'; cases h'
      | exc _ _ _ => rw [q2] at h'; cases h'
      | ok xs S2 =>
        rw [q2] at h'
        cases h'
        show xs.length + 1 = lenX b + 1
        rw [evs_len q2]
  | .var _, _, _, _, _, h => by cases h
  | .glo _, _, _, _, _, h => by cases h
  | .non, _, _, _, _, h => by cases h
  | .bl _, _, _, _, _, h => by cases h
  | .int _, _, _, _, _, h => by cases h
  | .str _, _, _, _, _, h => by cases h
  | .tyc _, _, _, _, _, h => by cases h
  | .bin _ _ _, _, _, _, _, h => by cases h
  | .neg _, _, _, _, _, h => by cases h
  | .nt _, _, _, _, _, h => by cases h
  | .and _ _, _, _, _, _, h => by cases h
  | .or _ _, _, _, _, _, h => by cases h
  | .cmp _ _ _, _, _, _, _, h => by cases h
  | .cmp2 _ _ _ _ _, _, _, _, _, h => by cases h
  | .ife _ _ _, _, _, _, _, h => by cases h
  | .call _ _, _, _, _, _, h => by cases h
  | .callk _ _ _ _, _, _, _, _, h => by cases h
  | .bi _ _, _, _, _, _, h => by cases h
  | .mt _ _ _, _, _, _, _, h => by cases h
  | .ix _ _, _, _, _, _, h => by cases h
  | .gdx _ _, _, _, _, _, h => by cases h
  | .dnew, _, _, _, _, h => by cases h
  | .dget _ _ _, _, _, _, _, h => by cases h
  | .dsetd _ _ _, _, _, _, _, h => by cases h
  | .sumv _, _, _, _, _, h => by cases h
  | .lset _, _, _, _, _, h => by cases h
  | .lix _ _, _, _, _, _, h => by cases h
  | .dit _, _, _, _, _, h => by cases h
  | .dks _, _, _, _, _, h => by cases h
  | .dvs _, _, _, _, _, h => by cases h
  | .sl _ _ _, _, _, _, _, h => by cases h
  | .rev _, _, _, _, _, h => by cases h
  | .tup _, _, _, _, _, h => by cases h
  | .lst _, _, _, _, _, h => by cases h
  | .lc _ _ _ _ _, _, _, _, _, h => by cases h
  | .itr _, _, _, _, _, h => by cases h
  | .rng1 _, _, _, _, _, h => by cases h
  | .rng2 _ _, _, _, _, _, h => by cases h
  | .zip2 _ _, _, _, _, _, h => by cases h
  | .enum _, _, _, _, _, h => by cases h
theorem run_gk {f : Addr} {fd : FuncData} {ps : List Str} {cs : List D → Sto → R D} {pins : List (Addr × Obj)} {σ : L2.St} {H : Hp} {s : Shared} {Q : VK} {us ws zs : List Value} {vs : List V} {m : Mp} {ds : List D} {S : Sto} {q : Nat × List Str × List Nat}
    (F : FnG X.prog X.w X.K X.mg X.base k f fd ps cs) {cb : Bool} (cx : Ctx cb X) (hr : Room k X.A) (hb : KB fd ps q) (tk : L2N.Takes X W) (I : L2.Inv X pins σ H s) (h1 : us.length = q.1) (h2 : ws.length = q.2.1.length) (h3 : permL (us ++ ws) q.2.2 = some zs)
    (r : Vals vs zs) (ra : RelA X.kw X.mg m H S) (rs : Rps X.kw X.mg m H ds vs)
    (h : Post X.kw X.mg (fun c d H' => W c d σ H') (Rp X.kw X.mg) m H (cs ds S) Q) : wpAny (model X.prog X.w) X.A (call (.ref f) us (q.2.1.zip ws)) (EP X pins σ Q) X.xe s := by
  rw [kw_calm hr] at ra rs h
  refine wpAny_call (codeAny_mono (F.run X.A X.stack s H ⟨us, q.2.1.zip ws⟩ zs vs m ds S Q _ cx.g hr I.env0 (hb s us ws zs h1 h2 h3) r ra rs h) ?_)
  intro res s' hq
  cases res with
  | error er => exact L2N.passAt tk σ pins H s er s' I hq
  | ok fl =>
    cases fl with
    | ret u => exact I.after hq
    | next => exact False.elim hq
    | brk => exact False.elim hq
    | cont => exact False.elim hq
theorem i_callk {i : Nat} {perm : List Nat} {σ : L2.St} {H : Hp} {Q : VK} (h : tD X C G W (.callk i A B perm) σ H Q) :
    tDs X C G W A σ H fun vs H1 => tDs X C G W B σ H1 fun ws H2 => ∃ m ds es fs S, vs.length = lenX A ∧ ws.length = lenX B ∧ RelA X.kw X.mg m H2 S ∧ Rps X.kw X.mg m H2 ds vs ∧ Rps X.kw X.mg m H2 es ws ∧ permL (ds ++ es) perm = some fs ∧
      Post X.kw X.mg (fun c d H' => W c d σ H') (Rp X.kw X.mg) m H2 (C i fs S) Q := by
  obtain ⟨m, ρ, S, ra, re, p⟩ := h
  refine ⟨m, ρ, S, ra, re, ?_⟩
  have p0 : Post X.kw X.mg (fun c d H' => W c d σ H') (Rp X.kw X.mg) m H ((evs C G A ρ S).bind fun xs S1 => (evs C G B ρ S1).bind fun ys S2 => match permL (xs ++ ys) perm with
    | some zs => C i zs S2
    | none => .bad) Q := p
  cases q : evs C G A ρ S with
  | bad => rw [q] at p0; exact p0.elim
  | exc c pp S1 => rw [q] at p0; exact p0
  | ok ds S1 =>
    rw [q] at p0
    simp only [R.bind_ok] at p0
    intro m1 H1 vs l1 ra1 r1
    refine ⟨m1, ρ, S1, ra1, re.mono l1, ?_⟩
    have p1 := Post.move l1 p0
    cases q2 : evs C G B ρ S1 with
    | bad => rw [q2] at p1; exact p1.elim
    | exc c pp S2 => rw [q2] at p1; exact p1
    | ok es S2 =>
      rw [q2] at p1
      simp only [R.bind_ok] at p1
      intro m2 H2 ws l2 ra2 r2
      cases q3 : permL (ds ++ es) perm with
      | none => simp only [q3] at p1; exact p1.elim
      | some fs =>
        simp only [q3] at p1
        exact ⟨m2, ds, es, fs, S2, by rw [r1.length, evs_len q], by rw [r2.length, evs_len q2], ra2, r1.mono l2, r2, q3, Post.move l2 p1⟩
theorem de_callk0 {i j : Nat} {x : Str} {fd : Fd} {nm : List Str} {kwt : Nat → List (Nat × List Str × List Nat)} {T : Nat → Option Fd} {p : Pos} {kws : List Keyword} {q : Nat × List Str × List Nat} (cc : Calls X.prog X.w X.K X.mg X.base k nm kwt T C) (hq : (kwt i)[j]? = some q)
    (hx : nm[i]? = some x) (hT : T i = some fd) {cb : Bool} (cx : Ctx cb X) (hr : Room k X.A) (tk : L2N.Takes X W) (hg : Gl X x) (hkw : PK X kws (tDs X C G W B)) (h1 : q.1 = 0 := by rfl) (h2 : lenX B = q.2.1.length := by rfl)
    (hall : (backToKw pos (keywordEach kws X.env)).all (·.1.isSome) = true := by rfl) (hks : (backToKw pos (keywordEach kws X.env)).filterMap (·.1) = q.2.1 := by rfl)
    (hdb : (x == ("__debug__" : Str)) = false := by decide) (hpl : ((backTo pos (starEach [] X.env)).any (·.1) || (backToKw pos (keywordEach kws X.env)).any (·.1.isNone)) = false := by rfl) :
    PE X (.Call (.Name x p) [] kws pos) (tD X C G W (.callk i .nil B q.2.2)) := by
  obtain ⟨f, fd, ps, hm, hk, _, hb, hkb, F⟩ := (cc.fn i x fd hx hT).ex
  refine ⟨fun pins s σ H Q I h => ?_⟩
  refine wpAny_Call_Name_kw (ld_glob I hg hm ?_ hdb)
  obtain ⟨m0, ρ0, S0, ra0, re0, p0⟩ := i_callk h
  have q1 := Post.now (v := []) (show Post X.kw X.mg (fun c d H' => W c d σ H') (Rps X.kw X.mg) m0 H (.ok [] S0) _ from p0) ra0 .nil
  refine PySem.W.callWith_KW0 (h₀ := X.base) I.ok.mod.kin hk hall (thn (hkw.run pos pins s σ H _ I q1) fun ws s2 ⟨zs, H2, I2, rz, m, ds, es', fs, S, e1, e2, ra, r1, r2, hp, post⟩ => ⟨I2.kIn, ?_⟩) hpl
  rw [hks]
  obtain ⟨ys, hy, ry⟩ := rps_perm (r1.append r2) hp
  obtain ⟨xs, hxs, rx⟩ := vals_perm (Vals.append (.nil : Vals [] []) rz) hy
  exact run_gk (us := []) F cx hr (hkb q (List.mem_of_getElem? hq)) tk I2 h1.symm (by rw [← rz.length, e2, h2]) hxs rx ra ry post
def PostS (K : KW) (mg : Str → Option Value) (W : WX) (m : Mp) (H : Hp) (r : Rs) (D' : Ends) : Prop := match r with
  | .nx ρ S => ∀ m' H' σ, Le m m' H H' → RelA K mg m' H' S → RelE K mg m' H' σ ρ → D'.nx σ H'
  | .bk ρ S => ∀ m' H' σ, Le m m' H H' → RelA K mg m' H' S → RelE K mg m' H' σ ρ → D'.bk σ H'
  | .ct ρ S => ∀ m' H' σ, Le m m' H H' → RelA K mg m' H' S → RelE K mg m' H' σ ρ → D'.ct σ H'
  | .rt d S => ∀ m' H' v, Le m m' H H' → RelA K mg m' H' S → Rp K mg m' H' d v → D'.rt v H'
  | .exc c p ρ S => ∀ m' H' σ cls dd, Le m m' H H' → RelA K mg m' H' S → RelE K mg m' H' σ ρ → RpX K mg m' H' c p cls dd → W cls dd σ H'
  | .bad => False
theorem PostS.move {K : KW} {mg : Str → Option Value} {W : WX} {m m1 : Mp} {H H1 : Hp} {r : Rs} {D' : Ends} (l : Le m m1 H H1) (h : PostS K mg W m H r D') : PostS K mg W m1 H1 r D' := by
  cases r with
  | bad => exact h
  | rt d S => exact fun m' H' v l' => h m' H' v (l.trans l')
  | exc c p ρ S => exact fun m' H' σ cls dd l' => h m' H' σ cls dd (l.trans l')
  | nx ρ S => exact fun m' H' σ l' => h m' H' σ (l.trans l')
  | bk ρ S => exact fun m' H' σ l' => h m' H' σ (l.trans l')
  | ct ρ S => exact fun m' H' σ l' => h m' H' σ (l.trans l')
theorem PostS.ofR {α β : Type} {K : KW} {mg : Str → Option Value} {W : WX} {m : Mp} {H : Hp} {σ : L2.St} {ρ : Env} {r : R α} {f : α → Sto → Rs} {D' : Ends} {rel : Mp → Hp → α → β → Prop} (re : RelE K mg m H σ ρ) (h : PostS K mg W m H (CC.ofR r ρ f) D') :
    Post K mg (fun c d H' => W c d σ H') rel m H r (fun v H1 => ∃ m1 d S1, Le m m1 H H1 ∧ RelA K mg m1 H1 S1 ∧ rel m1 H1 d v ∧ PostS K mg W m1 H1 (f d S1) D') := by
  cases r with
  | bad => exact h
  | exc c p S => exact fun m' H' cls dd l ra rx => h m' H' σ cls dd l ra (re.mono l) rx
  | ok d S => exact fun m' H' v l ra rv => ⟨m', d, S, l, ra, rv, PostS.move l h⟩
def tS (X : Cx) (n : Nat) (C : CallSem) (G : Nat → Option D) (W : WX) (s : Sx) : TS := fun D' σ H => ∃ m ρ S, RelA X.kw X.mg m H S ∧ RelE X.kw X.mg m H σ ρ ∧ PostS X.kw X.mg W m H (run n C G s ρ S) D'
variable {n : Nat}
theorem ds_expr (he : PE X e (tD X C G W A)) (hs : swapsWith e none pos.line X.env = pure false := by rfl) : PS X (.Expr e pos) (tS X n C G W (.ex A)) :=
  PS_imp (ps_expr he hs) fun D' σ H ⟨m, ρ, S, ra, re, p⟩ => ⟨m, ρ, S, ra, re, Post.imp (PostS.ofR re p) fun v H1 ⟨m1, d, S1, l1, ra1, r1, p1⟩ => p1 m1 H1 σ (Le.refl _ _) ra1 (re.mono l1)⟩
theorem ds_ret (he : PE X e (tD X C G W A)) : PS X (.Return (some e) pos) (tS X n C G W (.ret A)) :=
  PS_imp (ps_ret he) fun D' σ H ⟨m, ρ, S, ra, re, p⟩ => ⟨m, ρ, S, ra, re, Post.imp (PostS.ofR re p) fun v H1 ⟨m1, d, S1, l1, ra1, r1, p1⟩ => p1 m1 H1 v (Le.refl _ _) ra1 r1⟩
theorem ds_if {s1 s2 : List Stmt} {A1 A2 : Sx} (hc : PT X c (tDT X C G W A)) (h1 : PSs X s1 (tS X n C G W A1)) (h2 : PSs X s2 (tS X n C G W A2)) : PS X (.If c s1 s2 pos) (tS X n C G W (.iff A A1 A2)) :=
  PS_imp (ps_if hc h1 h2) fun D' σ H ⟨m, ρ, S, ra, re, p⟩ => ⟨m, ρ, S, ra, re, Post.imp (PostS.ofR (rel := relEq) re p) fun k H1 ⟨m1, d, S1, l1, ra1, r1, p1⟩ => by
    have r1' : d = k := r1
    subst r1'
    cases d with
    | true => exact ⟨m1, ρ, S1, ra1, re.mono l1, p1⟩
    | false => exact ⟨m1, ρ, S1, ra1, re.mono l1, p1⟩⟩
theorem dss_nil : PSs X [] (tS X n C G W .nil) := PSs_imp pss_nil fun D' σ H ⟨m, ρ, S, ra, re, p⟩ => p m H σ (Le.refl _ _) ra re
theorem dss_cons {st : Stmt} {r : List Stmt} {A1 A2 : Sx} (h1 : PS X st (tS X n C G W A1)) (h2 : PSs X r (tS X n C G W A2)) : PSs X (st :: r) (tS X n C G W (.cons A1 A2)) :=
  PSs_imp (pss_cons h1 h2) fun D' σ H ⟨m, ρ, S, ra, re, p⟩ => ⟨m, ρ, S, ra, re, by
    have p0 : PostS X.kw X.mg W m H (match run n C G A1 ρ S with
      | .nx ρ1 S1 => run n C G A2 ρ1 S1
      | r => r) D' := p
    cases q : run n C G A1 ρ S with
    | nx ρ1 S1 =>
      rw [q] at p0
      exact fun m' H' σ' l ra' re' => ⟨m', ρ1, S1, ra', re', PostS.move l p0⟩
    | bk ρ1 S1 => rw [q] at p0; exact p0
    | ct ρ1 S1 => rw [q] at p0; exact p0
    | rt d S1 => rw [q] at p0; exact p0
    | exc c pp ρ1 S1 => rw [q] at p0; exact p0
    | bad => rw [q] at p0; exact p0⟩
def gU (X : Cx) (C : CallSem) (G : Nat → Option D) (W : WX) (t : Xp) : TG := fun v σ H Q => ∃ m ρ S d, RelA X.kw X.mg m H S ∧ RelE X.kw X.mg m H σ ρ ∧ Rp X.kw X.mg m H d v ∧ PostS X.kw X.mg W m H (setT C G t d ρ S) { nx := Q, rt := fun _ _ => False }
def notIx : Xp → Bool
  | .ix _ _ => false
  | .sl _ _ _ => false
  | _ => true
theorem setT_bind {t : Xp} {d : D} {ρ : Env} {S : Sto} (h : notIx t = true) : setT C G t d ρ S = match bindT t d ρ with
    | some ρ1 => .nx ρ1 S
    | none => .bad := by
  cases t <;> first | rfl | cases h
theorem dgu_bind {tg : Expr} {t : Xp} (h : PG X tg (gT X.kw X.mg t)) (hn : notIx t = true := by rfl) : PG X tg (gU X C G W t) :=
  PG_imp h fun v σ H Q ⟨m, ρ, S, d, ra, re, r, p⟩ => by
    rw [setT_bind hn] at p
    cases q : bindT t d ρ with
    | none => rw [q] at p; exact p.elim
    | some ρ1 =>
      rw [q] at p
      exact ⟨m, ρ, S, d, ρ1, ra, re, r, q, fun σ' re' _ => p m H σ' (Le.refl _ _) ra re'⟩
theorem dgu_ix {o i : Expr} {cb : Bool} (cx : Ctx cb X) (ho : PE X o (tD X C G W A)) (hi : PE X i (tD X C G W B))
    (ha : ∀ v, assign (.Subscript o i pos) X.env v = (do
      let ov ← holding [v] (eval o X.env)
      let iv ← holding [v, ov] (eval i X.env)
      standAt pos
      holding [v, ov, iv] (setItem ov iv v)
      release [v, ov, iv] []) := by intro _; rfl) : PG X (.Subscript o i pos) (gU X C G W (.ix A B)) :=
  PG_imp (pg_sub ho hi (set_any cx) ha) fun v σ H Q ⟨m, ρ, S, d, ra, re, r, p⟩ => by
    have p0 : PostS X.kw X.mg W m H (CC.ofR (ev C G A ρ S) ρ fun x S1 => CC.ofR (ev C G B ρ S1) ρ fun y S2 => match setIx x y d S2 with
      | some S3 => .nx ρ S3
      | none => .bad) { nx := Q, rt := fun _ _ => False } := p
    refine ⟨m, ρ, S, ra, re, Post.imp (PostS.ofR re p0) fun x H1 ⟨m1, d1, S1, l1, ra1, r1, p1⟩ => ?_⟩
    refine ⟨m1, ρ, S1, ra1, re.mono l1, Post.imp (PostS.ofR (re.mono l1) p1) fun y H2 ⟨m2, d2, S2, l2, ra2, r2, p2⟩ => ?_⟩
    cases q : setIx d1 d2 d S2 with
    | none => simp only [q] at p2; exact p2.elim
    | some S3 =>
      simp only [q] at p2
      exact ⟨m2, S2, d1, d2, d, S3, ra2, r1.mono l2, r2, (r.mono l1).mono l2, q, fun H' l ra' => p2 m2 H' σ l ra' (((re.mono l1).mono l2).mono l)⟩
theorem dgu_sl {o : Expr} {lo hi : Option Expr} {p2 : Pos} (ho : PE X o (tD X C G W A)) (hl : PO X lo (tDp X C G W B)) (hh : PO X hi (tDp X C G W D'))
    (ha : ∀ v, assign (.Subscript o (.Slice lo hi none p2) pos) X.env v = (do
      let ov ← holding [v] (eval o X.env)
      let iv ← holding [v, ov] (eval (.Slice lo hi none p2) X.env)
      standAt pos
      holding [v, ov, iv] (setItem ov iv v)
      release [iv, v, ov] []) := by intro _; rfl) : PG X (.Subscript o (.Slice lo hi none p2) pos) (gU X C G W (.sl A B D')) :=
  PG_imp (SS.pg_ssl ho hl hh ha) fun v σ H Q ⟨m, ρ, S, d, ra, re, r, p⟩ => by
    have p0 : PostS X.kw X.mg W m H (CC.ofR (ev C G A ρ S) ρ fun x S1 => CC.ofR (evp C G B ρ S1) ρ fun a S2 => CC.ofR (evp C G D' ρ S2) ρ fun b S3 => match setSl x a b d S3 with
      | some S4 => .nx ρ S4
      | none => .bad) { nx := Q, rt := fun _ _ => False } := p
    refine ⟨m, ρ, S, ra, re, Post.imp (PostS.ofR re p0) fun x H1 ⟨m1, d1, S1, l1, ra1, r1, p1⟩ => ?_⟩
    refine ⟨m1, ρ, S1, ra1, re.mono l1, Post.imp (PostS.ofR (rel := relEq) (re.mono l1) p1) fun oa H2 ⟨m2, oa', S2, l2, ra2, r2, p2⟩ => ?_⟩
    have r2' : oa' = oa := r2
    subst r2'
    refine ⟨m2, ρ, S2, ra2, (re.mono l1).mono l2, Post.imp (PostS.ofR (rel := relEq) ((re.mono l1).mono l2) p2) fun ob H3 ⟨m3, ob', S3, l3, ra3, r3, p3⟩ => ?_⟩
    have r3' : ob' = ob := r3
    subst r3'
    have re3 := ((re.mono l1).mono l2).mono l3
    have rd1 := (r1.mono l2).mono l3
    have rd := ((r.mono l1).mono l2).mono l3
    cases q : setSl d1 oa' ob' d S3 with
    | none => simp only [q] at p3; exact p3.elim
    | some S4 =>
      simp only [q] at p3
      cases rd1 with
      | @loc n a b1 t1 =>
        cases rd with
        | @loc k c b2 t2 =>
          have q' : (match S3[n]?, S3[k]? with
            | some (.lst ds), some (.lst es) => if n ≠ k ∧ ds.length + es.length ≤ sizeLine then some (S3.set n (.lst (putSl ds es oa' ob'))) else none
            | _, _ => none) = some S4 := q
          cases hn : S3[n]? with
          | none => simp only [hn] at q'; cases q'
          | some so =>
            cases hk : S3[k]? with
            | none => simp only [hn, hk] at q'; cases so <;> cases q'
            | some so2 =>
              simp only [hn, hk] at q'
              cases so with
              | lst ds =>
                cases so2 with
                | lst es =>
                  have q2 : (if n ≠ k ∧ ds.length + es.length ≤ sizeLine then some (S3.set n (.lst (putSl ds es oa' ob'))) else none) = some S4 := q'
                  by_cases hc : n ≠ k ∧ ds.length + es.length ≤ sizeLine
                  · rw [if_pos hc] at q2
                    cases q2
                    obtain ⟨vs, h1, h2⟩ := ra3.lst t1 hn
                    obtain ⟨ws, h3, h4⟩ := ra3.lst t2 hk
                    have hb1 : b1 = false := by
                      obtain ⟨_, z, _⟩ := ra3.at_ n (a, b1) _ t1 hn
                      exact z
                    have hb2 : b2 = false := by
                      obtain ⟨_, z, _⟩ := ra3.at_ k (c, b2) _ t2 hk
                      exact z
                    have hac : a ≠ c := by
                      intro e
                      subst e hb1 hb2
                      exact hc.1 (ra3.nd n k a t1 t2)
                    refine ⟨a, vs, c, ws, rfl, h1, rfl, h3, hac, by rw [h2.length, h4.length]; exact hc.2, ?_⟩
                    rw [h2.length]
                    refine p3 m3 _ σ (Le.write ra3 t1 hn h1) (ra3.write t1 hn h1 ?_) (re3.mono (Le.write ra3 t1 hn h1))
                    unfold putSl
                    exact Rps.append (Rps.append (Rps.take _ h2) h4) (Rps.drop _ h2)
                  · rw [if_neg hc] at q2
                    cases q2
                | _ => cases q'
              | _ => cases so2 <;> cases q'
        | _ => cases q
      | _ => cases q
theorem ds_asg {tg : Expr} {t : Xp} (he : PE X e (tD X C G W A)) (hg : PG X tg (gU X C G W t)) (hs : swapsWithSole [tg] e pos.line X.env = pure false := by rfl) (hw : swappedStores [tg] e X.env = pure none := by rfl)
    (h1 : (assignEach [tg] X.env).map (·.2) = [assign tg X.env] := by rfl) : PS X (.Assign [tg] e pos) (tS X n C G W (.asg t A)) :=
  PS_imp (ps_asg he hg hs hw h1) fun D' σ H ⟨m, ρ, S, ra, re, p⟩ => ⟨m, ρ, S, ra, re, Post.imp (PostS.ofR re p) fun v H1 ⟨m1, d, S1, l1, ra1, r1, p1⟩ => ⟨m1, ρ, S1, d, ra1, re.mono l1, r1, by
    have key : ∀ ρ' S', setT C G t d ρ S1 ≠ .bk ρ' S' ∧ setT C G t d ρ S1 ≠ .ct ρ' S' ∧ ∀ d', setT C G t d ρ S1 ≠ .rt d' S' := by
      intro ρ' S'
      cases t with
      | ix o i =>
        show CC.ofR (ev C G o ρ S1) ρ _ ≠ _ ∧ CC.ofR (ev C G o ρ S1) ρ _ ≠ _ ∧ ∀ d', CC.ofR (ev C G o ρ S1) ρ _ ≠ _
        cases ev C G o ρ S1 with
        | bad => exact ⟨(fun z => nomatch z), (fun z => nomatch z), fun _ z => nomatch z⟩
        | exc _ _ _ => exact ⟨(fun z => nomatch z), (fun z => nomatch z), fun _ z => nomatch z⟩
        | ok x S2 =>
          simp only [ofR_ok]
          cases ev C G i ρ S2 with
          | bad => exact ⟨(fun z => nomatch z), (fun z => nomatch z), fun _ z => nomatch z⟩
          | exc _ _ _ => exact ⟨(fun z => nomatch z), (fun z => nomatch z), fun _ z => nomatch z⟩
          | ok y S3 =>
            simp only [ofR_ok]
            cases setIx x y d S3 with
            | none => exact ⟨(fun z => nomatch z), (fun z => nomatch z), fun _ z => nomatch z⟩
            | some S4 => exact ⟨(fun z => nomatch z), (fun z => nomatch z), fun _ z => nomatch z⟩
      | sl o l h =>
        show CC.ofR (ev C G o ρ S1) ρ _ ≠ _ ∧ CC.ofR (ev C G o ρ S1) ρ _ ≠ _ ∧ ∀ d', CC.ofR (ev C G o ρ S1) ρ _ ≠ _
        cases ev C G o ρ S1 with
        | bad => exact ⟨(fun z => nomatch z), (fun z => nomatch z), fun _ z => nomatch z⟩
        | exc _ _ _ => exact ⟨(fun z => nomatch z), (fun z => nomatch z), fun _ z => nomatch z⟩
        | ok x S2 =>
          simp only [ofR_ok]
          cases evp C G l ρ S2 with
          | bad => exact ⟨(fun z => nomatch z), (fun z => nomatch z), fun _ z => nomatch z⟩
          | exc _ _ _ => exact ⟨(fun z => nomatch z), (fun z => nomatch z), fun _ z => nomatch z⟩
          | ok y S3 =>
            simp only [ofR_ok]
            cases evp C G h ρ S3 with
            | bad => exact ⟨(fun z => nomatch z), (fun z => nomatch z), fun _ z => nomatch z⟩
            | exc _ _ _ => exact ⟨(fun z => nomatch z), (fun z => nomatch z), fun _ z => nomatch z⟩
            | ok z S4 =>
              simp only [ofR_ok]
              cases setSl x y z d S4 with
              | none => exact ⟨(fun z => nomatch z), (fun z => nomatch z), fun _ z => nomatch z⟩
              | some S5 => exact ⟨(fun z => nomatch z), (fun z => nomatch z), fun _ z => nomatch z⟩
      | _ =>
        rw [setT_bind rfl]
        cases bindT _ d ρ with
        | none => exact ⟨(fun z => nomatch z), (fun z => nomatch z), fun _ z => nomatch z⟩
        | some S4 => exact ⟨(fun z => nomatch z), (fun z => nomatch z), fun _ z => nomatch z⟩
    cases q : setT C G t d ρ S1 with
    | bad => rw [q] at p1; exact p1
    | nx ρ' S' => rw [q] at p1; exact p1
    | exc c pp ρ' S' => rw [q] at p1; exact p1
    | bk ρ' S' => exact absurd q (key ρ' S').1
    | ct ρ' S' => exact absurd q (key ρ' S').2.1
    | rt d' S' => exact absurd q ((key ρ S').2.2 d')⟩⟩
theorem ds_par2 {i j : Nat} {x y : Str} {px py pt : Pos} {kt k2 pt2} (hc : X.calm = true) (hN : X.N.Nodup) (hi : X.N[i]? = some x) (hj : X.N[j]? = some y) (hij : i ≠ j)
    (hx : X.env.scope.names.lookup x = some .local) (hy : X.env.scope.names.lookup y = some .local) (ha : PA X [a, b] (tDs X C G W A))
    (hw : swappedStores [.Tuple [.Name x px, .Name y py] kt pt] (.Tuple [a, b] k2 pt2) X.env = pure (some [x, y]))
    (hs : swapsWithSole [.Tuple [.Name x px, .Name y py] kt pt] (.Tuple [a, b] k2 pt2) pos.line X.env = pure false := by rfl) :
    PS X (.Assign [.Tuple [.Name x px, .Name y py] kt pt] (.Tuple [a, b] k2 pt2) pos) (tS X n C G W (.par [i, j] A)) :=
  PS_imp (ps_par hc hN hi hj hij hx hy ha hw hs) fun D' σ H ⟨m, ρ, S, ra, re, p⟩ => ⟨m, ρ, S, ra, re, Post.imp (PostS.ofR re p) fun vs H1 ⟨m1, ds, S1, l1, ra1, r1, p1⟩ => by
    match ds, r1, p1 with
    | [d1, d2], r1, p1 =>
      obtain ⟨v, w, rfl, q1, q2⟩ := rps2 r1
      exact ⟨v, w, rfl, p1 m1 H1 _ (Le.refl _ _) ra1 (((re.mono l1).set q1).set q2)⟩
    | [], r1, p1 => exact p1.elim
    | [_], r1, p1 => exact p1.elim
    | _ :: _ :: _ :: _, r1, p1 => exact p1.elim⟩
theorem ds_for {tg iter : Expr} {body : List Stmt} {t it : Xp} {B' : Sx} (hp : PassesOwn (model X.prog X.w) X.A X.env X.xe) (hc : X.calm = true) (hi : PI X tg iter (tDi X C G W it)) (hg : PG X tg (gT X.kw X.mg t)) (hb : PSs X body (tS X n C G W B'))
    (hs : ∀ x, foldedSetIterable iter X.env x = pure x := by intro _; rfl) : PS X (.For tg iter body [] pos) (tS X n C G W (.for_ t it B')) :=
  PS_imp (ps_for hp hc hi hg hb hs) fun D' σ H ⟨m, ρ, S, ra, re, p⟩ => by
    refine ⟨m, ρ, S, ra, re, Post.imp (PostS.ofR re p) ?_⟩
    rintro J H1 ⟨m1, src, S1, l1, ra1, sok, p1⟩
    refine ⟨fun i j σ' H' => ∃ m' ρ' S', Le m1 m' H1 H' ∧ RelA X.kw X.mg m' H' S' ∧ RelE X.kw X.mg m' H' σ' ρ' ∧ PostS X.kw X.mg W m' H' (forl src t (fun ρ S => run n C G B' ρ S) j i ρ' S') D', ⟨src.size S1 + 1, m1, ρ, S1, Le.refl _ _, ra1, re.mono l1, p1⟩, ?_⟩
    rintro i j σ' H' ⟨m', ρ', S', l', ra', re', p'⟩
    cases j with
    | zero => exact p'.elim
    | succ j =>
      have p0 : PostS X.kw X.mg W m' H' (match src.get i S' with
        | none => .bad
        | some none => .nx ρ' S'
        | some (some d) => match bindT t d ρ' with
          | none => .bad
          | some ρ1 => match run n C G B' ρ1 S' with
            | .nx ρ2 S2 => forl src t (fun ρ S => run n C G B' ρ S) j (i + 1) ρ2 S2
            | .ct ρ2 S2 => forl src t (fun ρ S => run n C G B' ρ S) j (i + 1) ρ2 S2
            | .bk ρ2 S2 => .nx ρ2 S2
            | r => r) D' := p'
      obtain ⟨stop, go⟩ := sok m' H' S' i l'.lt ra'
      cases hgt : src.get i S' with
      | none => simp only [hgt] at p0; exact p0.elim
      | some o =>
        cases o with
        | none =>
          simp only [hgt] at p0
          exact .inl ⟨stop hgt, p0 m' H' σ' (Le.refl _ _) ra' re'⟩
        | some d =>
          simp only [hgt] at p0
          obtain ⟨g1, g2⟩ := go d hgt
          refine .inr ⟨g1, _, fun σ2 H2 z => ⟨j, Nat.lt_succ_self j, z⟩, fun x H'' hy => ?_⟩
          obtain ⟨ly, ray, rpx⟩ := g2 x H'' hy
          cases hbt : bindT t d ρ' with
          | none => simp only [hbt] at p0; exact p0.elim
          | some ρ1 =>
            simp only [hbt] at p0
            refine ⟨m', ρ', S', d, ρ1, ray, re'.mono ly, rpx, hbt, fun σ2 re2 _ => ⟨m', ρ1, S', ray, re2, ?_⟩⟩
            cases q : run n C G B' ρ1 S' with
            | nx ρ2 S2 => simp only [q] at p0; exact fun m2 H2 σ3 l2 ra2 re3 => ⟨m2, ρ2, S2, (l'.trans ly).trans l2, ra2, re3, PostS.move (ly.trans l2) p0⟩
            | ct ρ2 S2 => simp only [q] at p0; exact fun m2 H2 σ3 l2 ra2 re3 => ⟨m2, ρ2, S2, (l'.trans ly).trans l2, ra2, re3, PostS.move (ly.trans l2) p0⟩
            | bk ρ2 S2 => simp only [q] at p0; exact PostS.move (D' := { D' with nx := _, ct := _, bk := D'.nx }) ly (r := .bk ρ2 S2) p0
            | rt d2 S2 => simp only [q] at p0; exact PostS.move (D' := { D' with nx := _, ct := _, bk := D'.nx }) ly (r := .rt d2 S2) p0
            | exc cc pp ρ2 S2 => simp only [q] at p0; exact PostS.move (D' := { D' with nx := _, ct := _, bk := D'.nx }) ly (r := .exc cc pp ρ2 S2) p0
            | bad => simp only [q] at p0; exact p0
theorem ds_setLc {i : Nat} {y : Str} {py spos : Pos} {elt tg iter : Expr} {ifs : List Expr} {scope : Scope} {own : List (Str × Nat)} {it tx ex cd : Xp} (cx : Ctx true X) (hy : X.N[i]? = some y) (hyl : X.env.scope.names.lookup y = some .local)
    (hsw : swapsWith (.ListComp elt [⟨tg, iter, ifs, 0⟩] scope pos) (some (.Name y py)) spos.line X.env = pure true) (hi : PI X tg iter (tDi X C G W it)) (ok : BlkOk X.N X.env.scope scope own)
    (hg : ∀ (s : Shared) (H : Hp) (L : Addr) (cl : List (Str × Addr)) (fp : List Addr), PG (X.blk s H scope (compEnvC scope cl L X.env) fp) tg (gT X.kw X.mg tx))
    (ht : ∀ (s : Shared) (H : Hp) (L : Addr) (cl : List (Str × Addr)) (fp : List Addr), PTs (X.blk s H scope (compEnvC scope cl L X.env) fp) ifs (tDT X C G W00 cd))
    (he : ∀ (s : Shared) (H : Hp) (L : Addr) (cl : List (Str × Addr)) (fp : List Addr), PE (X.blk s H scope (compEnvC scope cl L X.env) fp) elt (tD X C G W00 ex))
    (hsl : ∀ i ∈ tslots tx, i ∈ own.map (·.2)) (hs : ∀ x, foldedSetIterable iter X.env x = pure x := by intro _; rfl) :
    PS X (.Assign [.Name y py] (.ListComp elt [⟨tg, iter, ifs, 0⟩] scope pos) spos) (tS X n C G W (.asg (.var i) (.lc it tx ex cd (own.map (·.2))))) :=
  PS_imp (ps_setLc (cx.calm rfl) cx.nd hy hyl hsw hi ok hg ht he hs) fun D' σ H ⟨m, ρ, S, ra, re, p⟩ => i_lc hsl ⟨m, ρ, S, ra, re, Post.imp (PostS.ofR re p) fun v H1 ⟨m1, d, S1, l1, ra1, r1, p1⟩ => p1 m1 H1 _ (Le.refl _ _) ra1 ((re.mono l1).set r1)⟩
end
end CC
namespace CC
open PySem PySem.Spec PyProof.Rows L2
theorem rps_ints {K : KW} {mg : Str → Option Value} {m : Mp} {H : Hp} : ∀ ns : List Int, Rps K mg m H (ns.map D.int) (ns.map V.int)
  | [] => .nil
  | n :: ns => .cons (.int n) (rps_ints ns)
abbrev Told (P : Program) (w : World) (fa a : Addr) (s : Shared) : Prop :=
  codeAny (model P w) callerA (.call (.ref fa) ⟨[.ref a], []⟩) (fun r s' => r = .ok (.ret (.bool true)) ∧ PySem.OldK s.heap s'.heap ∧ s'.os = s.os ∧ AllBare s'.gens) s
theorem law_core {P : Program} {w : World} {K : PySem.W.Frag} {mg mb : Str → Option Value} {k : Nat} {fa a : Addr} {x : Str} {kw : List (Nat × List Str × List Nat)} {cs : List D → Sto → R D} {s : Shared} {vs : List Value} {ns : List Int} {H : Hp} {m : Mp} {ob : Obj}
    (KX : K.In s.heap) (hns : s.heap.Ns mainGlobals mg) (hb : s.heap.Ns builtinsNs mb) (hbb : ∀ x : Str, x ≠ "__name__" → mb x = bootBuiltins x) (hlim : s.heap.NoLimit) (hg : s.gens = #[])
    (ha : s.heap.get? a = some ob) (hob : ob = { cls := .type "list", data := .seq vs.toArray }) (hr : Room k callerA)
    (hfa : mg x = some (.ref fa)) (F : ∀ base : Heap, K.In base → base.Ns mainGlobals mg → FnAt P w K mg base k x 1 kw cs)
    (hcs : ∃ S', cs [.loc 0] [.frz (ns.map D.int)] = .ok (.bl true) S')
    (hH : ∀ b, H b = none ∨ (b = a ∧ H b = some (.frz ob (.lst (ns.map V.int))))) (hK : H a ≠ none → K.lookup a = none) (ok : HOk P w H s.heap)
    (ra : RelA ⟨K, w, none⟩ mg m H [.frz (ns.map D.int)]) (rp : Rp ⟨K, w, none⟩ mg m H (.loc 0) (.ref a)) : Told P w fa a s := by
  have only : ∀ b u, H b = some u → b = a ∧ u = .frz ob (.lst (ns.map V.int)) := fun b u z => by
    rcases hH b with q | ⟨q1, q2⟩
    · rw [z] at q; cases q
    · rw [z] at q2; cases q2; exact ⟨q1, rfl⟩
  have nodict : ∀ {b : Addr} {o : Obj} {es : Array DictEntry} {ep : Nat}, s.heap.get? b = some o → o.data = .dict es ep → H b = none := by
    intro b o es ep z1 z2
    rcases hH b with q | ⟨q1, _⟩
    · exact q
    · subst q1
      rw [ha, hob] at z1
      cases z1
      cases z2
  have keepNs : ∀ {b : Addr} {mm : Str → Option Value}, s.heap.Ns b mm → (hidT s.heap H).Ns b mm := by
    rintro b mm ⟨o, es, ep, z1, z2, z3⟩
    exact ⟨o, es, ep, hidT_get z1 (nodict z1 z2), z2, z3⟩
  have inBase : K.In (hidT s.heap H) := by
    intro b o z
    refine hidT_get (KX b o z) ?_
    rcases hH b with q | ⟨q1, q2⟩
    · exact q
    · subst q1
      rw [hK (by rw [q2]; simp)] at z
      cases z
  have md : Mod K mg (hidT s.heap H) := by
    obtain ⟨mc, l1, l2⟩ := hlim
    exact ⟨inBase, keepNs hns, ⟨mb, keepNs hb, hbb⟩, ⟨mc, keepNs l1, l2⟩⟩
  have env : Env0 P w K mg (hidT s.heap H) callerA [] s H :=
    { frames := rfl, mod := md, bs := fun b o z => of_hidT z, bsz := Nat.le_of_eq (hidT_size _ _), funs := trivial, frf := (by intro b z; cases z), hok := ok, bare := .of_eq hg }
  obtain ⟨S', hS⟩ := hcs
  have post : Post ⟨K, w, none⟩ mg (fun _ _ _ => False) (Rp ⟨K, w, none⟩ mg) m H (cs [.loc 0] [.frz (ns.map D.int)]) (fun v _ => v = .bl true) := by
    rw [hS]
    intro m' H' v _ _ r
    cases r
    rfl
  obtain ⟨f, fd, ps, hm, hk, hl, hbd, _, FG⟩ := (F _ inBase (keepNs hns)).ex
  have ef := hfa.symm.trans hm
  cases ef
  have hbs : BindsTo s fd ⟨[.ref a], []⟩ (ps.zip [.ref a]) := by
    have z := hbd s [.ref a] KX (by simpa using hl.symm)
    rw [List.append_nil] at z
    exact z
  refine codeAny_mono (FG.run callerA [] s H ⟨[.ref a], []⟩ [.ref a] [.ref a] m [.loc 0] _ _ _ rfl hr env hbs (.cons rfl .nil) ra (.cons rp .nil) post) ?_
  intro r s' h
  cases r with
  | error e =>
    obtain ⟨_, _, _, _, _, _, _, _, _, _, _, _, z⟩ := h
    exact z.elim
  | ok fl =>
    cases fl with
    | ret u =>
      obtain ⟨v, H', os, bare, un, ok', rv, q⟩ := h
      have q' : v = V.bl true := q
      subst q'
      have rv' : u = Value.bool true := rv
      subst rv'
      refine ⟨rfl, PySem.OldK.of_keep ?_, os, bare⟩
      intro b o z
      cases q : H b with
      | none => exact un.keep b o z q (by intro q; cases q) (by simp)
      | some u =>
        obtain ⟨e1, e2⟩ := only b u q
        subst e2
        have z2 := un.frzs b ob _ q
        obtain ⟨g1, _⟩ := ok b _ q
        obtain ⟨g2, _⟩ := ok' b _ z2
        rw [z] at g1
        cases g1
        exact g2
    | next => exact False.elim h
    | brk => exact False.elim h
    | cont => exact False.elim h
theorem law_g {P : Program} {w : World} {K : PySem.W.Frag} {mg mb : Str → Option Value} {k : Nat} {fa a : Addr} {x : Str} {kw : List (Nat × List Str × List Nat)} {cs : List D → Sto → R D} {s : Shared} {vs : List Value} {ns : List Int}
    (KX : K.In s.heap) (hns : s.heap.Ns mainGlobals mg) (hb : s.heap.Ns builtinsNs mb) (hbb : ∀ x : Str, x ≠ "__name__" → mb x = bootBuiltins x) (hlim : s.heap.NoLimit) (hg : s.gens = #[])
    (ha : s.heap.get? a = some { cls := .type "list", data := .seq vs.toArray }) (hi : IntsAre vs ns) (hl : ns.length ≤ sizeLine) (hr : Room k callerA)
    (hfa : mg x = some (.ref fa)) (F : ∀ base : Heap, K.In base → base.Ns mainGlobals mg → FnAt P w K mg base k x 1 kw cs)
    (hcs : ∃ S', cs [.loc 0] [.frz (ns.map D.int)] = .ok (.bl true) S') : Told P w fa a s := by
  have rv := vals_ints hi
  cases hk : K.lookup a with
  | some o =>
    have e := KX a o hk
    rw [ha] at e
    cases e
    refine law_core (H := fun _ => none) (m := [(a, true)]) KX hns hb hbb hlim hg ha rfl hr hfa F hcs (fun _ => .inl rfl) (fun z => absurd rfl z) (fun b u z => by cases z) ⟨rfl, ?_, ?_, fun _ e => nomatch e⟩ (.loc (b := true) rfl)
    · intro i j c h1 h2
      match i, h1 with
      | 0, h1 => cases h1
    · intro i p so h1 h2
      match i, h1, h2 with
      | 0, h1, h2 =>
        cases h1
        cases h2
        refine ⟨ns.map V.int, .inr ⟨rfl, _, vs.toArray, _, hk, rfl, rfl, rfl, ?_, by simpa using rv⟩, rps_ints ns⟩
        rw [List.size_toArray, hi.length]
        exact hl
  | none =>
    have at_a : (fun b : Addr => if b = a then some (HO.frz { cls := .type "list", data := .seq vs.toArray } (.lst (ns.map V.int))) else none) a = some (.frz { cls := .type "list", data := .seq vs.toArray } (.lst (ns.map V.int))) := if_pos rfl
    refine law_core (H := fun b => if b = a then some (.frz { cls := .type "list", data := .seq vs.toArray } (.lst (ns.map V.int))) else none) (m := [(a, false)]) KX hns hb hbb hlim hg ha rfl hr hfa F hcs ?_ (fun _ => hk) ?_ ⟨rfl, ?_, ?_, fun _ e => nomatch e⟩ (.loc (b := false) rfl)
    · intro b
      by_cases q : b = a
      · exact .inr ⟨q, if_pos q⟩
      · exact .inl (if_neg q)
    · intro b u z
      by_cases q : b = a
      · subst q
        have z' := at_a.symm.trans z
        cases z'
        exact ⟨ha, by rw [List.length_map]; exact hl, vs, _, rv, ha⟩
      · have z' := (if_neg q).symm.trans z
        cases z'
    · intro i j c h1 h2
      match i, j, h1, h2 with
      | 0, 0, _, _ => rfl
    · intro i p so h1 h2
      match i, h1, h2 with
      | 0, h1, h2 =>
        cases h1
        cases h2
        exact ⟨ns.map V.int, .inl ⟨rfl, _, at_a⟩, rps_ints ns⟩
theorem walk_e {l : PySem.W.OpenLaw} {n k : Nat} {q : Program} {loose : List Str} {XP : (Str → Option Value) → Heap → Prop} {YP : World → Heap → Prop} {d : DefRec} {x : Str} {kw : List (Nat × List Str × List Nat)} {cs : List D → Sto → R D}
    (hn : l.most = some n) (hn2 : n ≤ sizeLine) (hdf : d.params.defaults = []) (hx : d.name = x) (hr : Room k callerA)
    (F : ∀ (w : World) (mg : Str → Option Value) (h : Heap), YP w h → h.Ns mainGlobals mg →
      ∃ K : PySem.W.Frag, K.In h ∧ ∀ base : Heap, K.In base → base.Ns mainGlobals mg → FnAt l.prog w K mg base k x 1 kw cs)
    (hcs : ∀ ns : List Int, ns.length ≤ n → ∃ S', cs [.loc 0] [.frz (ns.map D.int)] = .ok (.bl true) S') :
    PySem.W.WalkO q loose XP YP l.row.toRowW d [] (fun f vs => PySem.call f vs) := by
  refine Att.attach_call hn hdf ?_
  intro w s₀ s₁ mg mb fa o pm cd doc a vs ns G Y ho hd hcd hmg hobj hints hlen hgens
  obtain ⟨K, KX, hF⟩ := F w mg _ Y G.T.g
  exact law_g KX G.T.g G.T.b G.T.builtins G.T.nolimit hgens hobj hints (Nat.le_trans hlen hn2) hr (hx ▸ hmg) hF (hcs ns hlen)
theorem post_end {K : KW} {mg : Str → Option Value} {E : XK} {m : Mp} {H : Hp} {r : Rs} {Q : VK} (h : Post K mg E (Rp K mg) m H (endR r) Q) : PostS K mg (fun c d _ H' => E c d H') m H r { nx := fun _ H' => Q .non H', rt := Q } := by
  cases r with
  | nx ρ S => exact fun m' H' σ l ra _ => h m' H' .non l ra .non
  | rt d S => exact h
  | exc c p ρ S => exact fun m' H' σ cls dd l ra _ rx => h m' H' cls dd l ra rx
  | bk _ _ => exact h.elim
  | ct _ _ => exact h.elim
  | bad => exact h
theorem relE_start {K : KW} {mg : Str → Option Value} {m : Mp} {H : Hp} {N : List Str} {n : Nat} {ds : List D} {vs : List V} (hn : N.length = n) (rs : Rps K mg m H ds vs) : RelE K mg m H (start N vs) (startE n ds) := by
  unfold L2.start startE
  refine ⟨by simp [rs.length, hn], fun i d e => ?_⟩
  by_cases c : i < ds.length
  · rw [List.getElem?_append_left (by simpa using c), List.getElem?_map] at e
    cases q : ds[i]? with
    | none => rw [q] at e; cases e
    | some d' =>
      rw [q] at e
      cases e
      obtain ⟨v, h1, h2⟩ := rs.get q
      refine ⟨v, ?_, h2⟩
      rw [List.getElem?_append_left (by rw [List.length_map, rs.length]; exact c), List.getElem?_map, h1]
      rfl
  · rw [List.getElem?_append_right (by simpa using Nat.le_of_not_lt c), List.getElem?_replicate] at e
    split at e <;> cases e
structure NoB (mg : Str → Option Value) : Prop where
  no : ∀ x ∈ bnames, mg x = none
theorem def_ok {P : Program} {w : World} {K : PySem.W.Frag} {mg : Str → Option Value} {base : Heap} {k : Nat} {f : Addr} {x y0 qual : Str} {st : Stmt} {fdd : FuncData} {N ps : List Str} {i n : Nat} {fd : Fd} {C : CallSem} {G : Nat → Option D} {T : Nat → Option Fd}
    (nob : NoB mg) (F : Fun K y0 qual st f fdd) (sc : FnScope N ps (defScope st)) (hT : T i = some fd) (hps : ps.length = fd.np) (hN : N.length = fd.n) (hm : mg x = some (.ref f)) (hb : Binds K fdd ps []) {kw : List (Nat × List Str × List Nat)} (hkb : ∀ q ∈ kw, KB fdd ps q)
    (der : ∀ (cdv : Value) (A : Around) (outer : List PySem.Env) (s : Shared) (H : Hp) (E : XK), Ctx true (cxOf (L2N.CX P w) P w K mg base N qual (defScope st) f cdv A outer s H E) → Room k (cxOf (L2N.CX P w) P w K mg base N qual (defScope st) f cdv A outer s H E).A →
      L2N.Takes (cxOf (L2N.CX P w) P w K mg base N qual (defScope st) f cdv A outer s H E) (fun c d _ H' => E c d H') →
      PassesOwn (model P w) (A.deeper (envOfC qual (defScope st) s.heap.objs.size f cdv)) (envOfC qual (defScope st) s.heap.objs.size f cdv) (cxOf (L2N.CX P w) P w K mg base N qual (defScope st) f cdv A outer s H E).xe →
      PSs (cxOf (L2N.CX P w) P w K mg base N qual (defScope st) f cdv A outer s H E) (defBody st) (tS (cxOf (L2N.CX P w) P w K mg base N qual (defScope st) f cdv A outer s H E) n C G (fun c d _ H' => E c d H') fd.body)) :
    FnAt P w K mg base (k + 1) x fd.np kw (fun ds S => if ds.length = fd.np then trim S (endR (run n C G fd.body (startE fd.n ds) S)) else .bad) := by
  refine ⟨f, fdd, ps, hm, F.kp, hps, hb, hkb, fnG_of F sc (fun ds S h => ?_) ?_⟩
  · by_cases c : ds.length = fd.np
    · rw [c, hps]
    · rw [if_neg c] at h
      exact absurd rfl h
  · intro cdv A outer s H vs m ds S Q E hg room ra rs post
    have c : ds.length = fd.np := by
      by_cases c : ds.length = fd.np
      · exact c
      · rw [if_neg c] at post
        exact post.elim
    rw [if_pos c] at post
    have ek : (cxOf (L2N.CX P w) P w K mg base N qual (defScope st) f cdv A outer s H E).kw = (⟨K, w, none⟩ : KW) := kw_calm (X := cxOf (L2N.CX P w) P w K mg base N qual (defScope st) f cdv A outer s H E) room
    rw [← ek] at ra rs post
    refine ⟨_, der cdv A outer s H E ⟨fun _ => rfl, ?_, sc.nd, hg, nob.no, .inl room.hd⟩ room (L2N.takes_of rfl rfl rfl rfl) (passes_of rfl), m, _, S, ra, relE_start hN rs, post_end (Post.trim ra post)⟩
    have hu := room.un
    show (A.deeper (envOfC qual (defScope st) s.heap.objs.size f cdv)).units + 100 < cLine
    omega
section
open PySem.PyData
mutual
theorem shown_le : ∀ p : PyData, p.showable = true → dic0 p = true → p.shown.length ≤ shB p
  | .none, _, _ => by decide +kernel
  | .bool b, _, _ => by cases b <;> decide +kernel
  | .int i, h, _ => by
    have h' : i.natAbs.log2 < 1920 := of_decide_eq_true (by simpa only [PyData.showable] using h)
    simp only [PyData.shown, shB]
    have := int_text_length_le (a := i) (k := i.natAbs.log2 + 1) (by omega) (by omega)
    rw [PySem.ofString_length]
    omega
  | .str x, _, _ => by simp only [PyData.shown, shB]; exact Nat.le_refl _
  | .list xs, h, h2 => by
    have ih := shown_les xs (by simpa only [PyData.showable] using h) (by simpa only [dic0] using h2)
    simp only [PyData.shown, shB]
    have := listText_len_le (shownAll xs)
    rw [shownAll_length] at this
    omega
  | .tuple xs, h, h2 => by
    have ih := shown_les xs (by simpa only [PyData.showable] using h) (by simpa only [dic0] using h2)
    simp only [PyData.shown, shB]
    have := PySem.fmt_text (shownAll xs)
    have e : piled (shownAll xs) = ((shownAll xs).map (·.length)).sum + 2 * xs.length := piled_eq xs
    omega
  | .dict [], _, _ => by decide +kernel
  | .dict (_ :: _), _, h2 => by simp [dic0] at h2
theorem shown_les : ∀ xs : List PyData, PyData.showableAll xs = true → dic0s xs = true → ((shownAll xs).map (·.length)).sum + 2 * xs.length ≤ shBs xs
  | [], _, _ => by simp [shownAll, shBs]
  | x :: xs, h, h2 => by
    simp only [PyData.showableAll, Bool.and_eq_true] at h
    simp only [dic0s, Bool.and_eq_true] at h2
    have h3 := shown_le x h.1 h2.1
    have ih := shown_les xs h.2 h2.2
    simp only [shownAll, shBs, List.map_cons, List.sum_cons, List.length_cons]
    omega
theorem shownAll_length : ∀ xs : List PyData, (shownAll xs).length = xs.length
  | [] => by simp [shownAll]
  | x :: xs => by simp [shownAll, shownAll_length xs]
theorem piled_eq : ∀ xs : List PyData, piled (shownAll xs) = ((shownAll xs).map (·.length)).sum + 2 * xs.length
  | [] => by simp [shownAll, piled]
  | x :: xs => by
    have ih := piled_eq xs
    unfold piled at ih ⊢
    simp only [shownAll, List.map_cons, List.sum_cons, List.length_cons]
    omega
end
end
mutual
inductive Dq (K : PySem.W.Frag) (H : Hp) : V → PyData → Prop
  | non : Dq K H .non .none
  | bl (b : Bool) : Dq K H (.bl b) (.bool b)
  | int (i : Int) : Dq K H (.int i) (.int i)
  | str (x : Str) : Dq K H (.str x) (.str x)
  | lst {a : Addr} {xs : List V} {ds : List PyData} : SqL K H a xs → Dqs K H xs ds → Dq K H (.ref a) (.list ds)
  | tup {a : Addr} {xs : List V} {ds : List PyData} : SqT K H a xs → Dqs K H xs ds → Dq K H (.ref a) (.tuple ds)
  | dic {a : Addr} : Rd H a (.dK []) → Dq K H (.ref a) (.dict [])
inductive Dqs (K : PySem.W.Frag) (H : Hp) : List V → List PyData → Prop
  | nil : Dqs K H [] []
  | cons {v : V} {vs : List V} {d : PyData} {ds : List PyData} : Dq K H v d → Dqs K H vs ds → Dqs K H (v :: vs) (d :: ds)
end
section
variable {K : KW} {mg : Str → Option Value} {m : Mp} {H : Hp} {S : Sto}
theorem toQs_dq (f : D → Option PyData) (hf : ∀ d v p, Rp K mg m H d v → f d = some p → Dq K H v p) : ∀ {ds : List D} {vs : List V} {ps : List PyData}, Rps K mg m H ds vs → ds.mapM f = some ps → Dqs K H vs ps
  | _, _, ps, .nil, e => by
    rw [List.mapM_nil] at e
    cases e
    exact .nil
  | d :: ds, v :: vs, ps, .cons h hs, e => by
    rw [List.mapM_cons] at e
    cases q : f d with
    | none => rw [q] at e; cases e
    | some p =>
      rw [q] at e
      cases q2 : ds.mapM f with
      | none => rw [q2] at e; cases e
      | some r =>
        rw [q2] at e
        cases e
        exact .cons (hf d v p h q) (toQs_dq f hf hs q2)
theorem toQ_dq (ra : RelA K mg m H S) : ∀ (n : Nat) (d : D) (v : V) (p : PyData), Rp K mg m H d v → toQ S n d = some p → Dq K H v p
  | n, _, _, p, .non, e => by cases n <;> (cases e; exact .non)
  | n, _, _, p, .bl b, e => by cases n <;> (cases e; exact .bl b)
  | n, _, _, p, .int i, e => by cases n <;> (cases e; exact .int i)
  | n, _, _, p, .str x, e => by cases n <;> (cases e; exact .str x)
  | n, _, _, p, .ty t, e => by cases n <;> cases e
  | n, _, _, p, .fn h, e => by cases n <;> cases e
  | n, _, _, p, .exn h1 h2 h hf hs, e => by cases n <;> cases e
  | n, _, _, p, .cls h1 h2, e => by cases n <;> cases e
  | n, _, _, p, .fm h hk hq hs, e => by cases n <;> cases e
  | n, _, _, p, .bd h hs, e => by cases n <;> cases e
  | n, _, _, p, .bm h hk hq hs, e => by cases n <;> cases e
  | 0, _, _, p, .tup h hs, e => by cases e
  | 0, _, _, p, .loc h, e => by cases e
  | 0, _, _, p, .fl h hs, e => by cases e
  | n, _, _, p, .fd (ks := []) (ds := []) (kvs := []) h hk hs, e => by
    have e' : some (PyData.dict []) = some p := by cases n <;> exact e
    cases e'
    exact .dic (.inr ⟨_, h⟩)
  | n, _, _, p, .fd (ks := []) (ds := []) (kvs := _ :: _) h hk hs, e => by cases hk
  | n, _, _, p, .fd (ks := _ :: _) (ds := _) h hk hs, e => by cases n <;> cases e
  | n, _, _, p, .fd (ks := []) (ds := _ :: _) h hk hs, e => by cases n <;> cases e
  | n + 1, _, _, p, .fl (ds := ds) h hs, e => by
    unfold toQ at e
    cases q : ds.mapM (toQ S n) with
    | none => rw [q] at e; cases e
    | some ps =>
      rw [q] at e
      cases e
      exact .lst (.inl (.inr ⟨_, h⟩)) (toQs_dq (toQ S n) (fun d v p r z => toQ_dq ra n d v p r z) hs q)
  | n + 1, _, _, p, .tup (ds := ds) h hs, e => by
    unfold toQ at e
    cases q : ds.mapM (toQ S n) with
    | none => rw [q] at e; cases e
    | some ps =>
      rw [q] at e
      cases e
      exact .tup h.t (toQs_dq (toQ S n) (fun d v p r z => toQ_dq ra n d v p r z) hs q)
  | n + 1, _, _, p, .loc (n := k) h, e => by
    unfold toQ at e
    cases q0 : lstAt S k with
    | none =>
      rw [q0] at e
      cases q1 : dicAt S k with
      | none => simp only [q1] at e; cases e
      | some kvs =>
        simp only [q1] at e
        cases kvs with
        | cons _ _ => cases e
        | nil =>
          cases e
          obtain ⟨ks, g1, g2⟩ := dic_ro ra h q1
          have : ks = [] := by
            have := g2.1
            cases ks with
            | nil => rfl
            | cons _ _ => cases this
          subst this
          exact .dic g1
    | some ds =>
      rw [q0] at e
      obtain ⟨vs, h1, h2⟩ := ra.seq h q0
      cases q : ds.mapM (toQ S n) with
      | none =>
        have e' : (ds.mapM (toQ S n)).map PyData.list = some p := e
        rw [q] at e'; cases e'
      | some ps =>
        have e' : (ds.mapM (toQ S n)).map PyData.list = some p := e
        rw [q] at e'
        cases e'
        exact .lst h1 (toQs_dq (toQ S n) (fun d v p r z => toQ_dq ra n d v p r z) h2 q)
end
section
variable {X : Cx} {pins : List (Addr × Obj)} {σ : L2.St} {H : Hp} {s : Shared}
theorem dk0_at (I : Inv X pins σ H s) {a : Addr} (h : Rd H a (.dK [])) : (a == sysModules) = false ∧ ∃ o n, s.heap.get? a = some o ∧ o.cls = .type "dict" ∧ o.data = .dict #[] n := by
  obtain ⟨_, hs, vs, r, o, es, ep, h1, h2, h3, _, h5, _⟩ := dk_rd I.hok h
  cases r
  have : es = #[] := by
    obtain ⟨l⟩ := es
    cases h5
    rfl
  subst this
  exact ⟨hs, o, ep, h1, h2.1, h3⟩
mutual
theorem Dq.rd (I : Inv X pins σ H s) : ∀ (d : PyData) (v : V) (u : Value), Dq X.K H v d → RelV v u → ∃ as, Reads s.heap u d as
  | .none, _, _, h, r => by
    cases h
    cases r
    exact ⟨_, Reads.none⟩
  | .bool b, _, _, h, r => by
    cases h
    cases r
    exact ⟨_, Reads.bool b⟩
  | .int i, _, _, h, r => by
    cases h
    obtain ⟨t, rfl⟩ := r
    exact ⟨_, Reads.int i t⟩
  | .str x, _, _, h, r => by
    cases h
    obtain ⟨t, rfl⟩ := r
    exact ⟨_, Reads.str x t⟩
  | .list ds, _, _, h, r => by
    cases h with
    | lst hs ha =>
      cases r
      obtain ⟨its, rv, ⟨o, n, ho, hc, _, hd⟩, _⟩ := I.list hs
      obtain ⟨as, hr⟩ := Dqs.rd I ds _ its ha rv
      exact ⟨_, Reads.list ho hc hd hr⟩
  | .tuple ds, _, _, h, r => by
    cases h with
    | tup hs ha =>
      cases r
      obtain ⟨its, rv, ⟨o, ho, hc, n, hd⟩, _⟩ := I.tuple hs
      obtain ⟨as, hr⟩ := Dqs.rd I ds _ its ha rv
      exact ⟨_, Reads.tuple ho hc hd hr⟩
  | .dict _, _, _, h, r => by
    cases h with
    | dic hd =>
      cases r
      obtain ⟨_, o, n, h1, h2, h3⟩ := dk0_at I hd
      exact ⟨_, Reads.dict h1 h2 h3 .nil .nil⟩
theorem Dqs.rd (I : Inv X pins σ H s) : ∀ (ds : List PyData) (vs : List V) (us : List Value), Dqs X.K H vs ds → Vals vs us → ∃ as, ReadsAll s.heap us ds as
  | [], _, _, h, r => by
    cases h
    cases r
    exact ⟨_, ReadsAll.nil⟩
  | d :: ds, _, _, h, r => by
    cases h with
    | cons h1 h2 =>
      cases r with
      | cons r1 r2 =>
        obtain ⟨as, q1⟩ := Dq.rd I d _ _ h1 r1
        obtain ⟨bs, q2⟩ := Dqs.rd I ds _ _ h2 r2
        exact ⟨_, ReadsAll.cons q1 q2⟩
end
mutual
theorem Dq.rk {prog : Program} {w : World} (I : Inv X pins σ H s) : ∀ (d : PyData) (v : V) (u : Value), Dq X.K H v d → RelV v u → d.showable = true → d.shown.length ≤ sizeLine → ∃ bs, ReadAtMost s.heap d.depth bs ∧ ReprK prog w bs s.heap d.depth u d.shown
  | .none, _, _, h, r, _, _ => by
    cases h
    cases r
    exact ⟨[], (fun _ h => nomatch h), by simp only [PyData.shown]; exact .of_is ReprIs.none _ _ _⟩
  | .bool b, _, _, h, r, _, _ => by
    cases h
    cases r
    exact ⟨[], (fun _ h => nomatch h), by simp only [PyData.shown]; exact .of_is (ReprIs.bool b) _ _ _⟩
  | .int i, _, _, h, r, hs, _ => by
    cases h
    obtain ⟨t, rfl⟩ := r
    exact ⟨[], (fun _ h => nomatch h), by simp only [PyData.shown]; exact .of_is (ReprIs.int t (by simpa [PyData.showable] using hs)) _ _ _⟩
  | .str x, _, _, h, r, _, hz => by
    cases h
    obtain ⟨t, rfl⟩ := r
    exact ⟨[], (fun _ h => nomatch h), by simp only [PyData.shown]; exact .of_is (ReprIs.str x t (by simpa only [PyData.shown] using hz)) _ _ _⟩
  | .list xs, _, _, h, r, hs, hz => by
    obtain ⟨as0, r0⟩ := Dq.rd I (.list xs) _ _ h r
    cases h with
    | lst hq ha =>
      cases r
      obtain ⟨its, rv, ⟨o, n, h1, h2, _, h3⟩, _⟩ := I.list hq
      have hz' : (listText (PyData.shownAll xs)).length ≤ sizeLine := by simpa only [PyData.shown] using hz
      obtain ⟨bs, hb, hk⟩ := Dqs.rk (prog := prog) (w := w) I xs _ its ha rv (by simpa [PyData.showable] using hs) (fun t ht => Nat.le_trans (listText_mem_le ht) hz')
      have hna := not_mem_of_deeper r0 (by simp only [PyData.depth]; omega) hb
      refine ⟨_ :: bs, ReadAtMost.cons r0 (by simp only [PyData.depth]; omega) hb, ?_⟩
      simp only [PyData.depth, PyData.shown]
      cases its with
      | nil =>
        cases rv
        cases ha
        simp only [PyData.shownAll, listText_nil]
        exact ReprK.listEmpty h1 h2 h3
      | cons x l => exact ReprK.list h1 h2 h3 hna (by simpa using hk.length_eq) (fun i y e => hk.item i y (by simpa using e))
  | .tuple xs, _, _, h, r, hs, hz => by
    obtain ⟨as0, r0⟩ := Dq.rd I (.tuple xs) _ _ h r
    cases h with
    | tup hq ha =>
      cases r
      obtain ⟨its, rv, ⟨o, h1, h2, n, h3⟩, _⟩ := I.tuple hq
      have hz' : (tupleText (PyData.shownAll xs)).length ≤ sizeLine := by simpa only [PyData.shown] using hz
      obtain ⟨bs, hb, hk⟩ := Dqs.rk (prog := prog) (w := w) I xs _ its ha rv (by simpa [PyData.showable] using hs) (fun t ht => Nat.le_trans (tupleText_mem_le ht) hz')
      have hna := not_mem_of_deeper r0 (by simp only [PyData.depth]; omega) hb
      refine ⟨_ :: bs, ReadAtMost.cons r0 (by simp only [PyData.depth]; omega) hb, ?_⟩
      simp only [PyData.depth, PyData.shown]
      exact ReprK.tuple h1 h2 h3 hna hk
  | .dict _, _, _, h, r, _, _ => by
    cases h with
    | dic hd =>
      cases r
      obtain ⟨hsys, o, n, h1, h2, h3⟩ := dk0_at I hd
      have r0 : Reads s.heap (.ref _) (.dict []) _ := Reads.dict (kvs := []) h1 h2 h3 .nil .nil
      refine ⟨[_], ReadAtMost.cons r0 (Nat.zero_le _) (n := 0) (fun _ h => nomatch h), ?_⟩
      simp only [PyData.depth, PyData.shown]
      exact ReprK.dict h1 h2 h3 hsys (by simp) .nil
theorem Dqs.rk {prog : Program} {w : World} (I : Inv X pins σ H s) : ∀ (ds : List PyData) (vs : List V) (us : List Value), Dqs X.K H vs ds → Vals vs us → PyData.showableAll ds = true → (∀ t ∈ PyData.shownAll ds, t.length ≤ sizeLine) →
    ∃ bs, ReadAtMost s.heap (PyData.depthAll ds) bs ∧ ReprAllK prog w bs s.heap (PyData.depthAll ds) us (PyData.shownAll ds)
  | [], _, _, h, r, _, _ => by
    cases h
    cases r
    exact ⟨[], (fun _ h => nomatch h), by simp only [PyData.shownAll]; exact .nil⟩
  | d :: ds, _, _, h, r, hs, hz => by
    cases h with
    | cons h1 h2 =>
      cases r with
      | cons r1 r2 =>
        have hs' : d.showable = true ∧ PyData.showableAll ds = true := by simpa [PyData.showableAll] using hs
        obtain ⟨b1, hb1, k1⟩ := Dq.rk (prog := prog) (w := w) I d _ _ h1 r1 hs'.1 (hz _ (by simp only [PyData.shownAll]; exact List.mem_cons_self ..))
        obtain ⟨b2, hb2, k2⟩ := Dqs.rk (prog := prog) (w := w) I ds _ _ h2 r2 hs'.2 (fun t ht => hz t (by simp only [PyData.shownAll]; exact List.mem_cons_of_mem _ ht))
        refine ⟨b1 ++ b2, (hb1.mono (by simp only [PyData.depthAll]; omega)).append (hb2.mono (by simp only [PyData.depthAll]; omega)), ?_⟩
        simp only [PyData.depthAll, PyData.shownAll]
        exact .cons ((k1.more fun b hb => List.mem_append_left _ hb).level_le (Nat.le_max_left _ _)) (k2.more_le (fun b hb => List.mem_append_right _ hb) (Nat.le_max_right _ _))
end
theorem Dq.shows {prog : Program} {w : World} (I : Inv X pins σ H s) {d : PyData} {a : Addr} (h : Dq X.K H (.ref a) d) (hs : d.showable = true) (hsz : d.shown.length ≤ sizeLine) : ∃ T idr, ShowsBy prog w s.heap a d T idr := by
  obtain ⟨as0, r0⟩ := Dq.rd I d _ (.ref a) h rfl
  cases h with
  | lst hq ha =>
    rename_i vs0 xs
    obtain ⟨its, rv, ⟨o, n, h1, h2, _, h3⟩, _⟩ := I.list hq
    have hz' : (listText (PyData.shownAll xs)).length ≤ sizeLine := by simpa only [PyData.shown] using hsz
    obtain ⟨bs, hb, hk⟩ := Dqs.rk (prog := prog) (w := w) I xs _ its ha rv (by simpa [PyData.showable] using hs) (fun t ht => Nat.le_trans (listText_mem_le ht) hz')
    have hna := not_mem_of_deeper r0 (by simp only [PyData.depth]; omega) hb
    refine ⟨"list", "list.__repr__", F.slot_list_repr.toG, F.slot_list_str, F.slot_list_format, fun s hk0 => ⟨o, hk0 _ _ h1, h2⟩, fun A E s Q hg hu hk0 hQ => ?_⟩
    simp only [PyData.depth] at hu
    simp only [PyData.shown] at hQ
    cases its with
    | nil =>
      cases rv
      cases ha
      simp only [PyData.shownAll, listText_nil] at hQ
      exact call_list_repr_empty ⟨o, hk0 _ _ h1, h2⟩ (hk0 _ _ h1) h3 (hQ s.heap _ _ fun _ _ e => e)
    | cons x l =>
      exact call_list_reprK h1 h2 h3 hna (by simpa using hk.length_eq) (fun i y e => hk.item i y (by simpa using e)) hg (fun b _ => Clear.nil b) hu hk0 hQ hz'
  | tup hq ha =>
    rename_i vs0 xs
    obtain ⟨its, rv, ⟨o, h1, h2, n, h3⟩, _⟩ := I.tuple hq
    have hz' : (tupleText (PyData.shownAll xs)).length ≤ sizeLine := by simpa only [PyData.shown] using hsz
    obtain ⟨bs, hb, hk⟩ := Dqs.rk (prog := prog) (w := w) I xs _ its ha rv (by simpa [PyData.showable] using hs) (fun t ht => Nat.le_trans (tupleText_mem_le ht) hz')
    have hna := not_mem_of_deeper r0 (by simp only [PyData.depth]; omega) hb
    refine ⟨"tuple", "tuple.__repr__", F.slot_tuple_repr, F.slot_tuple_str, F.slot_tuple_format, fun s hk0 => ⟨o, hk0 _ _ h1, h2⟩, fun A E s Q hg hu hk0 hQ => ?_⟩
    simp only [PyData.depth] at hu
    simp only [PyData.shown] at hQ
    exact call_tuple_reprK h1 h2 h3 hna hk hg (fun b _ => Clear.nil b) hu hk0 hQ hz'
  | dic hd =>
    obtain ⟨hsys, o, n, h1, h2, h3⟩ := dk0_at I hd
    refine ⟨"dict", "dict.__repr__", F.slot_dict_repr, F.slot_dict_str, F.slot_dict_format, fun s hk0 => ⟨o, hk0 _ _ h1, h2⟩, fun A E s Q hg hu hk0 hQ => ?_⟩
    simp only [PyData.depth] at hu
    simp only [PyData.shown, PyData.shownKv] at hQ
    exact call_dict_reprK (as := []) h1 h2 h3 hsys (by simp) .nil hg (fun b _ => Clear.nil b) hu hk0 hQ (by decide +kernel)
end
section
variable {X : Cx} {C : CallSem} {G : Nat → Option D} {W : WX} {pos : Pos} {n : Nat}
theorem bi_repr {cb : Bool} (cx : Ctx cb X) : CallR X (.builtin "repr") (rBi X.kw X.mg .repr) := by
  intro pins s σ H xs us Q I r ⟨W, m, S, ds, ra, rs, p⟩
  cases ds with
  | nil => exact p.elim
  | cons d ds =>
  cases ds with
  | cons _ _ => exact p.elim
  | nil =>
    obtain ⟨x, rfl, rx⟩ := rps1 rs
    obtain ⟨z, hz, p'⟩ := post_opt (show Post X.kw X.mg W (Rp X.kw X.mg) m H (R.opt (repD d S) S) Q from p)
    have hz' : ((toQ S 50 d).bind fun p => if repOk p then some (D.str p.shown) else none) = some z := hz
    cases hp : toQ S 50 d with
    | none => rw [hp] at hz'; cases hz'
    | some pd =>
      rw [hp] at hz'
      have hz2 : (if repOk pd then some (D.str pd.shown) else none) = some z := hz'
      by_cases c : repOk pd = true
      · rw [if_pos c] at hz2
        cases hz2
        unfold repOk at c
        simp only [Bool.and_eq_true, decide_eq_true_eq] at c
        obtain ⟨⟨⟨c1, c2⟩, c3⟩, c4⟩ := c
        have q : Q (.str pd.shown) H := p'.now ra (.str _)
        have dp := toQ_dq ra 50 d x pd rx hp
        obtain ⟨u, rfl, ru⟩ := vals1 r
        have ref : ∀ a, x = .ref a → wpAny (model X.prog X.w) X.A (call (.builtin "repr") [u]) (EP X pins σ Q) X.xe s := by
          intro a ea
          subst ea
          have ru' : u = Value.ref a := ru
          subst ru'
          have hu := cx.hu
          obtain ⟨T, idr, Sh⟩ := Dq.shows (prog := X.prog) (w := X.w) I dp c1 (Nat.le_trans (shown_le pd c1 c2) c4)
          exact call_repr_slot (by omega) (Sh.typeIs s (fun _ _ e => e)) Sh.slotRepr (Sh.call X.A.in1 X.xe s _ cx.g (by show X.A.units + 1 + pd.depth < cLine; omega) (fun _ _ e => e) fun h' t tk k => ⟨_, _, rfl, ⟨.str _, H, I.kept (t' := tk) k, ⟨t, rfl⟩, q⟩⟩)
        cases rx with
        | tup _ _ => exact ref _ rfl
        | loc _ => exact ref _ rfl
        | fl _ _ => exact ref _ rfl
        | fm _ _ _ _ => exact ref _ rfl
        | bd _ _ => exact ref _ rfl
        | bm _ _ _ _ => exact ref _ rfl
        | fd _ _ _ => exact ref _ rfl
        | int i =>
          obtain ⟨t, rfl⟩ := ru
          cases dp
          exact PySem.P.repr_of_int (of_decide_eq_true (by simpa only [PyData.showable] using c1)) ⟨.str _, H, I.tok _, ⟨_, rfl⟩, by simpa only [PyData.shown] using q⟩
        | bl b =>
          have ru' : u = Value.bool b := ru
          subst ru'
          cases dp
          exact PySem.P.repr_of_bool ⟨.str _, H, I.tok _, ⟨_, rfl⟩, by simpa only [PyData.shown] using q⟩
        | str y =>
          obtain ⟨t, rfl⟩ := ru
          cases dp
          have e := shown_le (.str y) c1 c2
          exact PySem.P.repr_of_str ⟨.str _, H, I.tok _, ⟨_, rfl⟩, by simpa only [PyData.shown] using q⟩ (Nat.le_trans (by simpa only [PyData.shown] using e) c4)
        | non =>
          have ru' : u = Value.none := ru
          subst ru'
          cases dp
          exact PySem.P.repr_of_none ⟨.str _, H, I.tok _, ⟨_, rfl⟩, by simpa only [PyData.shown] using q⟩
        | ty t => cases hp
        | fn h => cases hp
        | exn _ _ _ _ _ => cases hp
        | cls _ _ => cases hp
      · rw [if_neg c] at hz2
        cases hz2
structure ExTxt (K : PySem.W.Frag) (mg : Str → Option Value) (x : Str) : Prop where
  ex : ∃ Cl : Addr, mg x = some (.ref Cl) ∧ PySem.W.excIn K Cl [.type "ValueError", .type "Exception", .type "BaseException", .type "object"] "ValueError.__new__" = true ∧ PySem.W.keepIn K (.ref Cl) = true ∧
    PySem.W.subIn K (.ref Cl) (.type "BaseException") = some true ∧ PySem.W.typeIn K (.ref Cl) = some (.type "type")
theorem pmk_zero {Cl : Addr} {bmB : List Value} {B newId initId : String} {x : Str} {p pos' : Pos} (F : ExcBaseFacts B newId initId bmB) (q : PySem.W.excIn X.K Cl bmB newId = true) (gC : X.mg x = some (.ref Cl)) (kC : PySem.W.keepIn X.K (.ref Cl) = true) (r : Raises X (.ref Cl)) (hg : Gl X x)
    (hdb : (x == ("__debug__" : Str)) = false := by decide) : L2N.PMk X (.Call (.Name x p) [] [] pos') (fun _ H Q => Q (.ref Cl) none H) := by
  intro pins s σ H Q I h
  refine wpAny_Call_Name_kw (ld_glob I hg gC ?_ hdb)
  refine PySem.W.callWith_K0 I.kIn kC ?_
  show wpAny _ _ (call (.ref Cl) []) _ _ _
  obtain ⟨bm, N, nm, qn, bs, hdct, sn, sub, ab, col, dd, k0, k1, k2, k3, k5, mN, hC, hN, hni, T⟩ := exc_obj I.kIn q
  refine wpAny_call_exc_subT F T hC hN hni (fun h' e hm => ?_) (by show 0 ≤ sizeLine; omega)
  exact L2N.mk_of I hm r h (I.hok.gone hm.new)
theorem ds_raise0 {c : Nat} {x : Str} {p pos' pos2 : Pos} (hx : exNames[c]? = some x) (xt : ExTxt X.K X.mg x) (cx : Ctx true X) (tk : L2N.Takes X W) (hg : Gl X x) (hdb : (x == ("__debug__" : Str)) = false := by decide) :
    PS X (.Raise (some (.Call (.Name x p) [] [] pos')) none pos2) (tS X n C G W (.rse c .nil)) := by
  obtain ⟨Cl, gC, q, kC, sb, ty⟩ := xt.ex
  exact PS_imp (L2N.ps_raise (cx.calm rfl) tk (pmk_zero PySem.F.excBase_ValueError q gC kC (raises_own sb ty) hg hdb)) fun D' σ H ⟨m, ρ, S, ra, re, p⟩ => p m H σ (.ref Cl) none (Le.refl m H) ra re ⟨x, Cl, [], hx, gC, rfl, .inl ⟨rfl, rfl⟩, .nil⟩
end
theorem m_len : ("len" : Str) ∈ bnames := by decide +kernel
theorem m_abs : ("abs" : Str) ∈ bnames := by decide +kernel
theorem m_min : ("min" : Str) ∈ bnames := by decide +kernel
theorem m_max : ("max" : Str) ∈ bnames := by decide +kernel
theorem m_all : ("all" : Str) ∈ bnames := by decide +kernel
theorem m_repr : ("repr" : Str) ∈ bnames := by decide +kernel
theorem m_int : ("int" : Str) ∈ bnames := by decide +kernel
theorem m_str : ("str" : Str) ∈ bnames := by decide +kernel
theorem m_list : ("list" : Str) ∈ bnames := by decide +kernel
theorem m_tuple : ("tuple" : Str) ∈ bnames := by decide +kernel
theorem m_isinstance : ("isinstance" : Str) ∈ bnames := by decide +kernel
theorem m_bool : ("bool" : Str) ∈ bnames := by decide +kernel
theorem b_len : bootBuiltins "len" = some (.builtin "len") := by decide +kernel
theorem b_abs : bootBuiltins "abs" = some (.builtin "abs") := by decide +kernel
theorem b_min : bootBuiltins "min" = some (.builtin "min") := by decide +kernel
theorem b_max : bootBuiltins "max" = some (.builtin "max") := by decide +kernel
theorem b_all : bootBuiltins "all" = some (.builtin "all") := by decide +kernel
theorem b_repr : bootBuiltins "repr" = some (.builtin "repr") := by decide +kernel
theorem b_int : bootBuiltins "int" = some (.type "int") := by decide +kernel
theorem b_str : bootBuiltins "str" = some (.type "str") := by decide +kernel
theorem b_list : bootBuiltins "list" = some (.type "list") := by decide +kernel
theorem b_tuple : bootBuiltins "tuple" = some (.type "tuple") := by decide +kernel
theorem b_isinstance : bootBuiltins "isinstance" = some (.builtin "isinstance") := by decide +kernel
theorem b_bool : bootBuiltins "bool" = some (.type "bool") := by decide +kernel
end CC
namespace CC
open PySem PySem.Spec PyProof.Rows L2
structure FnTxt (K : PySem.W.Frag) (mg : Str → Option Value) (x : Str) (st : Stmt) (ps : List Str) (kw : List (Nat × List Str × List Nat)) : Prop where
  ex : ∃ (f : Addr) (fd : FuncData), mg x = some (.ref f) ∧ (∃ y, Fun K y y st f fd) ∧ Binds K fd ps [] ∧ ∀ q ∈ kw, KB fd ps q
theorem at_zero {P : Program} {w : World} {K : PySem.W.Frag} {mg : Str → Option Value} {base : Heap} {k : Nat} {x : Str} {st : Stmt} {ps : List Str} {kw : List (Nat × List Str × List Nat)} (t : FnTxt K mg x st ps kw) (cs : List D → Sto → R D) (hz : ∀ ds S, cs ds S = .bad) : FnAt P w K mg base k x ps.length kw cs := by
  obtain ⟨f, fdd, hm, ⟨_, F⟩, hb, hkb⟩ := t.ex
  exact ⟨f, fdd, ps, hm, F.kp, rfl, hb, hkb, ⟨fun ds S h => absurd (hz ds S) h, fun A outer s H args us vs m ds S Q E _ _ _ _ _ _ _ p => by rw [hz] at p; exact p.elim⟩⟩
section
variable {K : PySem.W.Frag} {mg : Str → Option Value} {h : Heap} {w : World}
theorem fnTxt_of {x y : Str} {d : He.FnD} {st : Stmt} {ps : List Str} {kw : List (Nat × List Str × List Nat)} (X : K.In h) (G0 : h.Ns mainGlobals mg) (c1 : (He.Fa.glo x).ok K = true) (c2 : (He.Fa.keep x).ok K = true)
    (c : ∃ oc od osl kV doc pm an cdv ct, K.lookup (He.fAd K d.at_) = some ⟨oc, od, .func (PySem.W.fnOf d.name d.qual d.params d.body d.scope .none kV doc pm an cdv ct), osl⟩ ∧ PySem.W.codeIn K cdv d.qual = true)
    (hb : ∀ (kV doc pm : Value) (an : Option Addr) (cdv ct : Value) (us : List Value), us.length = ps.length → bindArgs (PySem.W.fnOf y y (defArgs st) (defBody st) (defScope st) .none kV doc pm an cdv ct) ⟨us, []⟩ = pure (ps.zip us))
    (hkb : ∀ (kV doc pm : Value) (an : Option Addr) (cdv ct : Value) q, q ∈ kw → KB (PySem.W.fnOf y y (defArgs st) (defBody st) (defScope st) .none kV doc pm an cdv ct) ps q)
    (hd : d = ⟨(x, none), y, y, defArgs st, defBody st, defScope st⟩ := by rfl) : FnTxt K mg x st ps kw := by
  subst hd
  obtain ⟨oc, od, osl, kV, doc, pm, an, cdv, ct, l, c⟩ := c
  have F := fun_mk (st := st) l c (He.keep_ok c2)
  exact ⟨_, _, He.glo_ok X G0 c1, ⟨_, F⟩, F.binds hb, fun q hq => hkb kV doc pm an cdv ct q hq⟩
theorem exTxt_of {x : Str} (X : K.In h) (G0 : h.Ns mainGlobals mg) (c1 : (He.Fa.glo x).ok K = true) (c2 : (He.Fa.exc x).ok K = true) : ExTxt K mg x := by
  obtain ⟨a, b, c, d⟩ := He.exc_ok c2
  exact ⟨_, He.glo_ok X G0 c1, a, b, c, d⟩
theorem nob_at {fa : List He.Fa} {fn : List He.FnD} (X : K.In h) (G0 : h.Ns mainGlobals mg) (c : He.SaysE fa fn K) (n : Nat) (e : ∀ i y, bnames[i]? = some y → fa[n + i]? = some (.free y)) {x : Str} (hx : x ∈ bnames) : mg x = none := by
  obtain ⟨i, hi⟩ := List.getElem?_of_mem hx
  exact He.free_ok X G0 (c.fact (n + i) (e i x hi))
end
section
variable {X : Cx} {C : CallSem} {G : Nat → Option D} {W : WX} {pos : Pos} {n : Nat}
theorem Ctx.tr {cb : Bool} (c : Ctx cb X) (pn : List (Addr × Obj)) (xe : Value → Shared → Prop) : Ctx cb (X.tr pn xe) := ⟨c.calm, c.hu, c.nd, c.g, c.nob, c.wm⟩
end
mutual
def valK (K : PySem.W.Frag) : D → Value → Bool
  | .str x, .str y _ => decide (x = y)
  | .int x, .int y _ => decide (x = y)
  | .tup ds, .ref a => (match K.lookup a with
    | some ⟨.type c, _, .seq its _, _⟩ => decide (c = "tuple") && (decide (its.size ≤ sizeLine) && valKs K ds its.toList)
    | _ => false)
  | _, _ => false
def valKs (K : PySem.W.Frag) : List D → List Value → Bool
  | [], [] => true
  | d :: ds, u :: us => valK K d u && valKs K ds us
  | _, _ => false
end
section
variable {K : PySem.W.Frag} {mg : Str → Option Value} {w : World}
mutual
theorem valK_ok : ∀ (d : D) (u : Value), valK K d u = true → ∃ v, RelV v u ∧ ∀ m H, Rp ⟨K, w, none⟩ mg m H d v
  | .str x, u, h => by
    cases u with
    | str y t =>
      unfold valK at h
      have e := of_decide_eq_true h
      subst e
      exact ⟨.str x, ⟨t, rfl⟩, fun m H => .str x⟩
    | _ => simp [valK] at h
  | .int x, u, h => by
    cases u with
    | int y t =>
      unfold valK at h
      have e := of_decide_eq_true h
      subst e
      exact ⟨.int x, ⟨t, rfl⟩, fun m H => .int x⟩
    | _ => simp [valK] at h
  | .tup ds, u, h => by
    cases u with
    | ref a =>
      unfold valK at h
      split at h
      · rename_i c od its n osl q
        simp only [Bool.and_eq_true, decide_eq_true_eq] at h
        obtain ⟨h1, h2, h3⟩ := h
        obtain ⟨vs, r, hv⟩ := valKs_ok ds its.toList h3
        exact ⟨.ref a, rfl, fun m H => .tup (.inr ⟨_, its, n, q, congrArg Value.type h1, rfl, h2, r⟩) (hv m H)⟩
      · cases h
    | _ => simp [valK] at h
  | .non, u, h => by cases u <;> simp [valK] at h
  | .bl _, u, h => by cases u <;> simp [valK] at h
  | .loc _, u, h => by cases u <;> simp [valK] at h
  | .ty _, u, h => by cases u <;> simp [valK] at h
  | .fn _, u, h => by cases u <;> simp [valK] at h
theorem valKs_ok : ∀ (ds : List D) (us : List Value), valKs K ds us = true → ∃ vs, Vals vs us ∧ ∀ m H, Rps ⟨K, w, none⟩ mg m H ds vs
  | [], [], _ => ⟨[], .nil, fun _ _ => .nil⟩
  | [], _ :: _, h => by simp [valKs] at h
  | _ :: _, [], h => by simp [valKs] at h
  | d :: ds, u :: us, h => by
    unfold valKs at h
    simp only [Bool.and_eq_true] at h
    obtain ⟨v, r, hv⟩ := valK_ok d u h.1
    obtain ⟨vs, rs, hvs⟩ := valKs_ok ds us h.2
    exact ⟨v :: vs, .cons r rs, fun m H => .cons (hv m H) (hvs m H)⟩
end
end
def ciK (K : PySem.W.Frag) (A : Addr) : Bool := decide (PySem.W.findIn K (.ref A) "__getattribute__" = some (some (.builtin "BaseException.__getattribute__"))) && (decide (PySem.W.findIn K (.ref A) "__getattr__" = some none) &&
  (decide (PySem.W.subIn K (.ref A) (.type "BaseException") = some true) && (PySem.W.hasDictIn K A && (decide (PySem.W.findIn K (.ref A) "__class__" = some (some (.builtin "object.__class__"))) &&
  (decide (PySem.W.specialIn K (.builtin "object.__class__") "__get__" = some (some (.builtin "getset_descriptor.__get__"))) && (decide (PySem.W.takesIn K (.builtin "object.__class__") = some true) && decide (PySem.W.mroIn K A (.type "object") = some true)))))))
def clsK (K : PySem.W.Frag) (c : Nat) : Bool := match exNames[c]? with
  | none => true
  | some x => match PySem.W.nsIn K mainGlobals x with
    | some none => true
    | some (some (.ref A)) => ciK K A && (decide (PySem.W.kitOne K (.ref A) (.type "ValueError") = some true) && (List.range 11).all fun k => match exNames[k]? with
      | none => true
      | some y => match PySem.W.nsIn K mainGlobals y with
        | some none => true
        | some (some (.ref B)) => decide (PySem.W.kitOne K (.ref A) (.ref B) = some (subX c k))
        | _ => false)
    | _ => false
def xAll (K : PySem.W.Frag) : Bool := (List.range 11).all fun c => clsK K c
def conK (K : PySem.W.Frag) (q : Str × D) : Bool := match PySem.W.nsIn K mainGlobals q.1 with
  | some (some u) => valK K q.2 u
  | _ => false
theorem conK_ok {K : PySem.W.Frag} {mg : Str → Option Value} {h : Heap} {w : World} (X : K.In h) (G0 : h.Ns mainGlobals mg) {x : Str} {d : D} (c : conK K (x, d) = true) : ∃ u v, mg x = some u ∧ RelV v u ∧ ∀ m H, Rp ⟨K, w, none⟩ mg m H d v := by
  unfold conK at c
  split at c
  · rename_i u q
    obtain ⟨v, r, hv⟩ := valK_ok d u c
    exact ⟨u, v, PySem.W.mg_of X G0 q, r, hv⟩
  · cases c
def tabK (K : PySem.W.Frag) (q : Str × List (Str × D)) : Bool := q.2.all fun r => match PySem.W.nsIn K (He.ga K q.1) r.1 with
  | some (some u) => valK K r.2 u
  | _ => false
def oexB (K : PySem.W.Frag) (C : Addr) : Bool := (match K.lookup C with
  | some ⟨.type "type", _, .cls cd, sl⟩ => (match cd.mro, sl.toList with
    | .ref C' :: bm, [_, _, _, _, some (.builtin n), _] => decide (C' = C) && (decide (n = "ValueError.__new__") && (!cd.hasDel && (cd.hasDict && PySem.HandSPX.refsVE bm)))
    | _, _ => false)
  | _ => false) && (decide (PySem.W.findIn K (.ref C) "__setattr__" = some (some (.builtin "object.__setattr__"))) && (decide (PySem.W.subIn K (.ref C) (.type "BaseException") = some true) && (decide (PySem.W.typeIn K (.ref C) = some (.type "type")) && PySem.W.keepIn K (.ref C))))
def conX (K : PySem.W.Frag) (q : Str × D) : Bool := match q.2 with
  | .cls 0 => xAll K
  | .cls (_ + 1) => oexB K (He.ga K q.1) && xfB K (He.ga K q.1)
  | .ty _ => match PySem.W.nsIn K cStatics "sys.int_max_str_digits" with
    | some none => true
    | _ => false
  | _ => conK K q
theorem conS {K : PySem.W.Frag} {q : Str × D} (c : conX K q = true) (h : (match q.2 with
  | .cls _ => false
  | .ty _ => false
  | _ => true) = true := by rfl) : conK K q = true := by
  obtain ⟨x, d⟩ := q
  cases d with
  | cls _ => cases h
  | ty _ => cases h
  | _ => exact c
theorem conXd {K : PySem.W.Frag} {x : Str} {t : String} (h : conX K (x, .ty t) = true) : PySem.W.nsIn K cStatics "sys.int_max_str_digits" = some none := by
  have h : (match PySem.W.nsIn K cStatics "sys.int_max_str_digits" with
    | some none => true
    | _ => false) = true := h
  split at h
  · assumption
  · cases h
abbrev AlC : Type := He.Al × (List (Option (List (Option (Str × Int)))) × Bool)
def exK (cs : List (Str × D)) (ts : List (Str × List (Str × D))) (K : PySem.W.Frag) : Bool := (cs.all fun q => conX K q) && ts.all fun q => tabK K q
def obsC (fa : List He.Fa) (fn : List He.FnD) (cs : List (Str × D)) (ts : List (Str × List (Str × D))) (K : PySem.W.Frag) : AlC := (He.obsE fa fn K, (ts.map fun t => He.dicW K (He.ga K t.1), exK cs ts K))
def valC (fn : List He.FnD) (ts : List (Str × List (Str × D))) (w : World) : AlC := (He.valE fn, (ts.map fun t => some (He.keysIn w.params (t.2.map (·.1))), true))
def SaysC (fa : List He.Fa) (fn : List He.FnD) (cs : List (Str × D)) (ts : List (Str × List (Str × D))) (w : World) (K : PySem.W.Frag) : Prop := obsC fa fn cs ts K = valC fn ts w
def frontG (g : Addr → Option Obj) : Nat → List Addr → List Addr
  | 0, f => f
  | n + 1, f => f ++ frontG g n (f.flatMap fun a => match g a with
    | some o => He.refsO o
    | none => [])
def extraA (cs : List (Str × D)) : List Addr := if (cs.any fun q => match q.2 with
  | .ty _ => true
  | _ => false) = true then [cStatics] else []
def obsCG (n : Nat) (fa : List He.Fa) (fn : List He.FnD) (cs : List (Str × D)) (ts : List (Str × List (Str × D))) (g : Addr → Option Obj) : AlC := obsC fa fn cs ts (He.frG g (frontG g n [mainGlobals] ++ extraA cs))
def hookC (n : Nat) (fa : List He.Fa) (fn : List He.FnD) (cs : List (Str × D)) (ts : List (Str × List (Str × D))) : PySem.W.Hook where
  α := AlC
  obs := fun s => obsCG n fa fn cs ts s.heap.get?
  val := fun w => valC fn ts w
  says := fun w h => ∃ K : PySem.W.Frag, K.In h ∧ SaysC fa fn cs ts w K
  of := fun _ _ e => ⟨_, He.frG_in, e⟩
  keeps := fun _ _ _ ⟨K, hK, c⟩ k => ⟨K, PySem.W.Frag.In.keeps hK k, c⟩
theorem obsCG_eq {n : Nat} {fa : List He.Fa} {fn : List He.FnD} {cs : List (Str × D)} {ts : List (Str × List (Str × D))} {g : Addr → Option Obj} {s : Shared} (h : ∀ a, g a = s.heap.get? a) : obsCG n fa fn cs ts g = (hookC n fa fn cs ts).obs s := by
  have e : g = s.heap.get? := funext h
  rw [e] <;> rfl
section
variable {fa : List He.Fa} {fn : List He.FnD} {cs : List (Str × D)} {ts : List (Str × List (Str × D))} {w : World} {K : PySem.W.Frag}
theorem SaysC.e (c : SaysC fa fn cs ts w K) : He.SaysE fa fn K := congrArg (fun z : AlC => z.1) c
theorem SaysC.con (c : SaysC fa fn cs ts w K) (i : Nat) {q : Str × D} (h : cs[i]? = some q := by rfl) : conX K q = true := by
  have e : exK cs ts K = true := congrArg (fun z : AlC => z.2.2) c
  unfold exK at e
  simp only [Bool.and_eq_true] at e
  exact List.all_eq_true.mp e.1 q (List.mem_of_getElem? h)
theorem SaysC.tab (c : SaysC fa fn cs ts w K) (i : Nat) {t : Str × List (Str × D)} (h : ts[i]? = some t := by rfl) : ∃ es n, KDict K w (He.ga K t.1) es n := by
  have e : (ts.map fun t => He.dicW K (He.ga K t.1)) = ts.map fun t => some (He.keysIn w.params (t.2.map (·.1))) := congrArg (fun z : AlC => z.2.1) c
  have e2 : (ts.map fun t => He.dicW K (He.ga K t.1))[i]? = (ts.map fun t => some (He.keysIn w.params (t.2.map (·.1))))[i]? := by rw [e]
  rw [List.getElem?_map, List.getElem?_map, h] at e2
  exact He.dicW_ok (Option.some.inj e2)
end
end CC
namespace CC
open PySem PySem.Spec PyProof.Rows L2
section
variable {X : Cx} {pins : List (Addr × Obj)} {σ : L2.St} {H : Hp} {s : Shared}
theorem adopt {a : Addr} {o : HO} {oe : Obj} {vs : Array Value} (I : Inv X pins σ H s) (ha : s.heap.get? a = some oe) (hd : oe.data = .fields vs) (na : H a = none) (n0 : X.s_0.heap.get? a = none) (nL : a ≠ X.env.locals) (np : ∀ p ∈ X.pn ++ pins, p.1 ≠ a) (hok : ObjOk X.prog X.w (upd H a o) s.heap a o) : Inv X pins σ (upd H a o) s := by
  have ne0 : ∀ b u, X.s_0.heap.get? b = some u → b ≠ a := fun b u e z => by rw [z, n0] at e; cases e
  have neH : ∀ b u, H b = some u → b ≠ a := fun b u e z => by rw [z, na] at e; cases e
  refine ⟨I.ok, I.os, I.bare, ⟨I.base.keep, I.base.slot, fun b u e n hx => ?_, I.base.there, fun b xs e => ?_, fun b u xs e => ?_, fun b ps e => ?_⟩, I.loc, I.cell, ?_, fun x c e => ?_, fun p hp => ?_, fun b u e => ?_, I.len⟩
  · rw [upd_ne (ne0 b u e)]
    exact I.base.free b u e n hx
  · have q := I.base.tups b xs e
    rw [upd_ne (neH b _ q)]
    exact q
  · have q := I.base.frzs b u xs e
    rw [upd_ne (neH b _ q)]
    exact q
  · obtain ⟨m, q⟩ := I.base.tbls b ps e
    exact ⟨m, by rw [upd_ne (neH b _ q)]; exact q⟩
  · rw [upd_ne (Ne.symm nL)]
    exact I.free
  · have hc : c ≠ a := fun z => by
      obtain ⟨v, oc, ho, hdc⟩ := I.cell x c e
      rw [z, ha] at ho
      cases ho
      rw [hd] at hdc
      cases hdc
    rw [upd_ne hc]
    exact I.freeC x c e
  · obtain ⟨e, n, r⟩ := I.pin p hp
    exact ⟨e, by rw [upd_ne (np p hp)]; exact n, r⟩
  · by_cases hb : b = a
    · subst hb
      rw [upd_same] at e
      cases e
      exact hok
    · rw [upd_ne hb] at e
      exact (I.hok b u e).stay (fun c v _ q => q) (fun c q => by rw [upd_ne (ne_of_none q na)]; exact q) fun c xs q => by rw [upd_ne (ne_of_none q na)]; exact q
end
structure Caught (X : Cx) (pins : List (Addr × Obj)) (σ : L2.St) (H : Hp) (a : Addr) (cls : Value) (d : Option Addr) (B : Heap) (sI s : Shared) : Prop where
  I : Inv X pins σ H sI
  nb : ∀ b o, sI.heap.get? b = some o → b ∉ frs X.stack → B.get? b = some o
  up : sI.heap.UpToSlots s.heap
  fl : HandSPX.FlyingZ B (X.env :: X.outer) a (L2N.Zn cls d) s.heap
  na : H a = none
  os : s.os = sI.os
  ag : AllBare s.gens
section
variable {X : Cx} {pins : List (Addr × Obj)} {σ : L2.St} {H : Hp} {sI s : Shared} {a : Addr} {cls : Value} {d : Option Addr} {B : Heap}
theorem Caught.inv (c : Caught X pins σ H a cls d B sI s) : Inv X pins σ H s := c.I.landed c.nb c.fl.1 c.up c.os c.ag
theorem Caught.more (c : Caught X pins σ H a cls d B sI s) {h : Heap} (fl : HandSPX.FlyingZ B (X.env :: X.outer) a (L2N.Zn cls d) h) (up : s.heap.UpToSlots h) : Caught X pins σ H a cls d B sI { s with heap := h } := ⟨c.I, c.nb, c.up.trans up, fl, c.na, c.os, c.ag⟩
theorem Caught.fr (c : Caught X pins σ H a cls d B sI s) : a ∉ frs (X.env :: X.outer) := fun hm => by
  obtain ⟨oe, vs, he, _, hd⟩ := c.fl.there
  obtain ⟨_, o', e', hnf⟩ := c.fl.2.2.1.mem hm
  rw [he] at e'
  cases e'
  exact hnf _ hd
theorem Caught.old (c : Caught X pins σ H a cls d B sI s) (hs : X.stack = X.env :: X.outer) : sI.heap.get? a = none := by
  cases e : sI.heap.get? a with
  | none => rfl
  | some o =>
    have z := c.nb a o e (by rw [hs]; exact c.fr)
    rw [c.fl.2.1] at z
    cases z
theorem Caught.n0 (c : Caught X pins σ H a cls d B sI s) (hs : X.stack = X.env :: X.outer) (hx : X.ex = []) : X.s_0.heap.get? a = none := by
  cases e : X.s_0.heap.get? a with
  | none => rfl
  | some o =>
    obtain ⟨o', z⟩ := c.I.base.there a o e (by rw [hx]; exact fun z => nomatch z)
    rw [c.old hs] at z
    cases z
theorem Caught.np (c : Caught X pins σ H a cls d B sI s) (hs : X.stack = X.env :: X.outer) : ∀ p ∈ X.pn ++ pins, p.1 ≠ a := fun p hp z => by
  have e := (c.I.pin p hp).1
  rw [z, c.old hs] at e
  cases e
theorem Caught.nL (c : Caught X pins σ H a cls d B sI s) (hf : X.env.frame = some X.env.locals) : a ≠ X.env.locals := fun z => c.fr (List.mem_filterMap.mpr ⟨X.env, List.mem_cons_self, by rw [hf, z]⟩)
end
section
variable {X : Cx} {pins : List (Addr × Obj)} {σ : L2.St} {H : Hp} {sI s : Shared} {a : Addr} {cls : Value} {d : Option Addr} {B : Heap}
variable {x n : Str} {c : Value} {i : Nat} {suite : List Stmt} {b₀ : Stmt} {np pos' : Pos} {rest : List ExceptHandler} {D : Ends} {b : Bool} {t : TS}
def unE (D : Ends) (i : Nat) : Ends := { nx := fun σ' H' => D.nx (σ'.set i none) H', rt := D.rt, bk := fun σ' H' => D.bk (σ'.set i none) H', ct := fun σ' H' => D.ct (σ'.set i none) H' }
end
theorem takes0 {X : Cx} : L2N.Takes X (fun _ _ _ _ => False) := fun _ _ ⟨_, _, _, _, _, _, _, _, _, _, _, _, _, _, _, _, w⟩ => w.elim
abbrev Wno : WX := fun _ _ _ _ => False
section
variable {K : KW} {mg : Str → Option Value} {m : Mp} {H : Hp} {W : WX} {D : Ends} {r : Rs}
theorem PostS.suite {i : Nat} (h : PostS K mg W m H (suiteR (some i) r) D) : PostS K mg Wno m H r (unE D i) := by
  cases r with
  | nx ρ S => exact fun m' H' σ l ra re => h m' H' _ l ra (re.clear i)
  | bk ρ S => exact fun m' H' σ l ra re => h m' H' _ l ra (re.clear i)
  | ct ρ S => exact fun m' H' σ l ra re => h m' H' _ l ra (re.clear i)
  | rt d S => exact h
  | exc c p ρ S => exact h.elim
  | bad => exact h
theorem PostS.kw {f : PySem.W.Frag} {w : World} {x y : Option Addr} {mg : Str → Option Value} {m : Mp} {H : Hp} {W : WX} {D : Ends} {r : Rs} (hx : HotH x H) (h : PostS ⟨f, w, x⟩ mg W m H r D) : PostS ⟨f, w, y⟩ mg W m H r D := by
  cases r with
  | nx ρ S => exact fun m' H' σ l ra re => h m' H' _ l (ra.kw (hx.mono l.fz)) re.kw
  | bk ρ S => exact fun m' H' σ l ra re => h m' H' _ l (ra.kw (hx.mono l.fz)) re.kw
  | ct ρ S => exact fun m' H' σ l ra re => h m' H' _ l (ra.kw (hx.mono l.fz)) re.kw
  | rt d S => exact fun m' H' v l ra r => h m' H' _ l (ra.kw (hx.mono l.fz)) r.kw
  | exc c p ρ S => exact fun m' H' σ cls dd l ra re rx => h m' H' _ _ _ l (ra.kw (hx.mono l.fz)) re.kw rx.kw
  | bad => exact h.elim
end
end CC
namespace CC
open PySem PySem.Spec PyProof.Rows L2
theorem Ctx.suite {X : Cx} {cb : Bool} (c : Ctx cb X) (a : Addr) (pn : List (Addr × Obj)) : Ctx false (X.suite a pn) := ⟨fun z => Bool.noConfusion z, c.hu, c.nd, c.g, c.nob, .inr ⟨a, rfl⟩⟩
theorem GOk.kw {f : PySem.W.Frag} {w : World} {x y : Option Addr} {mg : Str → Option Value} {gn : List Str} {G : Nat → Option D} (h : GOk ⟨f, w, x⟩ mg gn G) : GOk ⟨f, w, y⟩ mg gn G := fun i z d h1 h2 => by
  obtain ⟨u, v, e1, e2, e3⟩ := h i z d h1 h2
  exact ⟨u, v, e1, e2, fun m H => (e3 m H).kw⟩
end CC
namespace CC
open PySem PySem.Spec PyProof.Rows L2
def WarmAt (A : Around) (h : Heap) : Prop := A.handled = none ∨ ∃ x, HotX.HotAt A x h
theorem WarmAt.mono {A : Around} {h h' : Heap} (w : WarmAt A h) (k : ∀ (b : Addr) (o : Obj) (vs : Array Value), h.get? b = some o → o.data = .fields vs → vs[2]? = some .none → h'.get? b = some o) : WarmAt A h' := by
  rcases w with w | ⟨x, e, o, vs, g, d, c⟩
  · exact .inl w
  · exact .inr ⟨x, e, o, vs, k x o vs g d c, d, c⟩
section
variable {prog : Program} {w : World} {A : Around} {E : Value → Shared → Prop} {s : Shared}
theorem WarmAt.iter {it : Addr} {o : Obj} {v1 v2 : Value} {h h' : Heap} (wm : WarmAt A h) (e : h.get? it = some o) (d : o.data = .fields #[v1, v2]) (k : ∀ b u, b ≠ it → h.get? b = some u → h'.get? b = some u) : WarmAt A h' :=
  wm.mono fun b u vs g gd c => k b u (fun z => by
    subst z
    rw [e] at g
    cases g
    rw [d] at gd
    cases gd
    cases c) g
end
end CC
namespace CC
open PySem PySem.Spec PyProof.Rows L2
section
variable {X : Cx} {C : CallSem} {G : Nat → Option D} {W : WX}
theorem RelE.put {K : KW} {mg : Str → Option Value} {m : Mp} {H : Hp} {σ : L2.St} {ρ : Env} {i : Nat} {v : V} {d : D} (re : RelE K mg m H σ ρ) (e : σ[i]? = some (some v)) (r : Rp K mg m H d v) : RelE K mg m H σ (ρ.set i (some d)) := by
  refine ⟨by rw [List.length_set, re.len], fun j d' h => ?_⟩
  by_cases hij : i = j
  · subst hij
    by_cases hl : i < ρ.length
    · rw [List.getElem?_set_self hl] at h
      cases h
      exact ⟨v, e, r⟩
    · rw [List.getElem?_eq_none (by simpa using hl)] at h
      cases h
  · rw [List.getElem?_set_ne hij] at h
    exact re.at_ j d' h
theorem RelE.take {K : KW} {mg : Str → Option Value} {m : Mp} {H : Hp} {σ : L2.St} {ρ : Env} {k : Nat} (re : RelE K mg m H σ ρ) (h : envLt k ρ = true) : RelE K mg (m.take k) H σ ρ := by
  refine ⟨re.len, fun j d e => ?_⟩
  obtain ⟨v, h1, h2⟩ := re.at_ j d e
  have := List.all_eq_true.mp h _ (List.mem_of_getElem? e)
  exact ⟨v, h1, h2.take k this⟩
theorem ds_fz {st : Stmt} {n i : Nat} {B : Sx} (h : PS X st (tS X n C G W B)) : PS X st (tS X n C G W (.fz i B)) := by
  refine ⟨fun pins s σ H D' I ⟨m, ρ, S, ra, re, p⟩ => ?_⟩
  have p0 : PostS X.kw X.mg W m H (match run n C G B ρ S with
    | .nx ρ1 S1 => fzE i S ρ1 S1
    | r => r) D' := p
  cases hr : run n C G B ρ S with
  | bad => rw [hr] at p0; exact p0.elim
  | rt d S1 => rw [hr] at p0; exact h.run pins s σ H D' I ⟨m, ρ, S, ra, re, by rw [hr]; exact p0⟩
  | bk ρ1 S1 => rw [hr] at p0; exact h.run pins s σ H D' I ⟨m, ρ, S, ra, re, by rw [hr]; exact p0⟩
  | ct ρ1 S1 => rw [hr] at p0; exact h.run pins s σ H D' I ⟨m, ρ, S, ra, re, by rw [hr]; exact p0⟩
  | exc c q ρ1 S1 => rw [hr] at p0; exact h.run pins s σ H D' I ⟨m, ρ, S, ra, re, by rw [hr]; exact p0⟩
  | nx ρ1 S1 =>
    rw [hr] at p0
    have p1 : PostS X.kw X.mg W m H (fzE i S ρ1 S1) D' := p0
    refine thn (h.run pins s σ H { D' with nx := fun σ' H' => ∃ m', Le m m' H H' ∧ RelA X.kw X.mg m' H' S1 ∧ RelE X.kw X.mg m' H' σ' ρ1 } I ⟨m, ρ, S, ra, re, by rw [hr]; exact fun m' H' σ' l ra' re' => ⟨m', l, ra', re'⟩⟩) fun f s1 q => ?_
    cases f with
    | brk => exact q
    | cont => exact q
    | ret v => exact q
    | next =>
      obtain ⟨σ', H', I2, m', l, ra', re'⟩ := q
      cases he : ρ1[i]?.bind id with
      | none => unfold fzE at p1; rw [he] at p1; exact p1.elim
      | some d =>
        have hd : ρ1[i]? = some (some d) := by
          cases q1 : ρ1[i]? with
          | none => rw [q1] at he; cases he
          | some o => rw [q1] at he; exact congrArg some he
        obtain ⟨v, hv, rv⟩ := re'.at_ i d hd
        have fin : ∀ {d2 : D} {S2 : Sto} {H2 : Hp}, frzD d S1 = .ok d2 S2 → Le m m' H H2 → RelA X.kw X.mg m' H2 S2 → RelE X.kw X.mg m' H2 σ' ρ1 → Rp X.kw X.mg m' H2 d2 v → D'.nx σ' H2 := fun {d2 S2 H2} e l2 ra2 re2 rp2 => by
          unfold fzE at p1
          rw [he] at p1
          simp only [e] at p1
          have re3 := re2.put hv rp2
          unfold cutS at p1
          by_cases c : envLt S.length (ρ1.set i (some d2)) = true ∧ keepS S S2
          · rw [if_pos c] at p1
            exact p1 (m'.take m.length) H2 σ' l2.cut (ra.cut l2 ra2 c.2) (re3.take (by rw [ra.len]; exact c.1))
          · rw [if_neg c] at p1
            exact p1 m' H2 σ' l2 ra2 re3
        have keep : frzD d S1 = .ok d S1 → ∃ σ'' H'', Inv X pins σ'' H'' s1 ∧ D'.nx σ'' H'' := fun e => ⟨σ', H', I2, fin e l ra' re' rv⟩
        cases rv with
        | @loc k a b t =>
          cases q : S1[k]? with
          | none => exact keep (by unfold frzD; simp only [q])
          | some so =>
            cases so with
            | lst ds =>
              obtain ⟨vs, hb, g1, g2⟩ := ra'.at_ k (a, b) _ t q
              have hb' : b = false := hb
              subst hb'
              obtain ⟨od, I3⟩ := I2.lock g1 trivial
              have l2 : Le m' m' H' (upd H' a (.frz od (.lst vs))) := Le.writeO t g1 trivial
              exact ⟨σ', _, I3, fin (d2 := .fl ds) (S2 := S1.set k (.frz ds)) (by unfold frzD; simp only [q]) (l.trans l2) (ra'.writeO t g1 trivial ⟨vs, .inl ⟨rfl, od, upd_same⟩, g2.mono l2⟩) (re'.mono l2) (.fl upd_same (g2.mono l2))⟩
            | dic kvs =>
              obtain ⟨ks, hb, g1, g2⟩ := ra'.at_ k (a, b) _ t q
              have hb' : b = false := hb
              subst hb'
              obtain ⟨od, I3⟩ := I2.lock g1 trivial
              have l2 : Le m' m' H' (upd H' a (.frz od (.dK ks))) := Le.writeO t g1 trivial
              exact ⟨σ', _, I3, fin (d2 := .fd (kvs.map (·.1)) (kvs.map (·.2))) (S2 := S1.set k (.fdic kvs)) (by unfold frzD; simp only [q]) (l.trans l2) (ra'.writeO t g1 trivial ⟨ks, od, rfl, upd_same, kvs_mono g2 l2⟩) (re'.mono l2) (.fd upd_same g2.1 (g2.2.mono l2))⟩
            | dn kvs =>
              obtain ⟨xs, hb, g1, g2⟩ := ra'.at_ k (a, b) _ t q
              have hb' : b = false := hb
              subst hb'
              obtain ⟨od, I3⟩ := I2.lock g1 trivial
              have l2 : Le m' m' H' (upd H' a (.frz od (DnO X.w a xs))) := Le.writeO t g1 trivial
              have g3 := g2.mov l2.lt
              exact ⟨σ', _, I3, fin (d2 := .fm (kvs.map (·.1)) (kvs.map (·.2))) (S2 := S1.set k (.fdn kvs)) (by unfold frzD; simp only [q]) (l.trans l2) (ra'.writeO t g1 trivial ⟨xs, od, rfl, upd_same, g3⟩) (re'.mono l2) (.fm upd_same g3.1 (by rw [g3.1]; exact g3.2.1) g3.2.2)⟩
            | _ => exact keep (by unfold frzD; simp only [q])
        | _ => exact keep rfl
end
end CC
namespace CC
open PySem PySem.Spec PyProof.Rows L2
section
variable {X : Cx}
theorem bi_str : CallR X (.type "str") (rBi X.kw X.mg .str) := by
  intro pins s σ H xs us Q I r ⟨W, m, S, ds, ra, rs, p⟩
  rcases ds with _ | ⟨d, _ | ⟨e, t⟩⟩
  · exact p.elim
  · obtain ⟨x, rfl, rx⟩ := rps1 rs
    cases d with
    | int i =>
      cases rx
      have p' : Post X.kw X.mg W (Rp X.kw X.mg) m H (if decide (i.natAbs.log2 < 1900) then .ok (.str (toString i)) S else .bad) Q := p
      by_cases c : i.natAbs.log2 < 1900
      · rw [if_pos (decide_eq_true c)] at p'
        exact call_str_int pins s σ H _ us Q I r ⟨i, rfl, by omega, p'.now ra (.str _)⟩
      · rw [if_neg (by simpa using c)] at p'
        exact p'.elim
    | str x =>
      cases rx
      have p' : Post X.kw X.mg W (Rp X.kw X.mg) m H (.ok (.str x) S) Q := p
      exact SkE.call_str_str pins s σ H _ us Q I r ⟨x, rfl, p'.now ra (.str _)⟩
    | _ => exact p.elim
  · cases d <;> exact p.elim
end
end CC
namespace CC
open PySem PySem.Spec PyProof.Rows L2
def spI (K : PySem.W.Frag) (f : Str) : Sp := fun vs H Q _ => ∃ (a C : Addr) (y : V), vs = [.ref a, y] ∧ OexC K C ∧ PySem.W.findIn K (.ref C) f = some none ∧ H a = some (exo a C none) ∧
  ∀ dx, H dx = none → dx ≠ a → Q .non (upd (upd H dx (exd dx [(f, y)])) a (exo a C (some dx)))
structure ExI (K : PySem.W.Frag) (mg : Str → Option Value) (x f : Str) : Prop where
  ex : ∃ (Cl fI : Addr) (fd : FuncData) (se y : Str), mg x = some (.ref Cl) ∧ OexC K Cl ∧ PySem.W.findIn K (.ref Cl) "__init__" = some (some (.ref fI)) ∧ PySem.W.typeIn K (.ref fI) = some (.type "function") ∧ PySem.W.findIn K (.ref Cl) f = some none ∧
    Binds K fd [se, y] [] ∧ ∀ (P : Program) (w : World) (base : Heap) (CX : CXT), FnOk P w K mg base CX 1 fI fd [se, y] (spI K f)
theorem ExI.mg {K : PySem.W.Frag} {mg : Str → Option Value} {x f : Str} (t : ExI K mg x f) : ∃ Cl : Addr, mg x = some (.ref Cl) := by
  obtain ⟨Cl, _, _, _, _, h, _⟩ := t.ex
  exact ⟨Cl, h⟩
end CC
namespace CC
open PySem PySem.Spec PyProof.Rows L2
section
variable {P : Program} {w : World} {A : Around} {E : Value → Shared → Prop} {s : Shared} {h : Heap} {k : NestedKey} {b : Addr}
def Flat : NestedKey → Prop
  | .tup ks => ∀ k ∈ ks, (∃ i, k = .num i) ∨ ∃ x, k = .text x
  | _ => False
def Pln (v : Value) : Prop := (∃ b, v = .bool b) ∨ (∃ i t, v = .int i t) ∨ ∃ x t, v = .str x t
theorem pln_of {ks : List NestedKey} (hf : ∀ k ∈ ks, (∃ i, k = .num i) ∨ ∃ x, k = .text x) : ∀ {vs : List Value}, NestedAll h ks vs → ∀ v ∈ vs, Pln v := by
  induction ks with
  | nil =>
    intro vs hv v hm
    cases hv
    cases hm
  | cons k ks ih =>
    intro vs hv v hm
    cases hv with
    | @cons _ u _ us hu hus =>
      rcases List.mem_cons.mp hm with rfl | hm
      · rcases hf k List.mem_cons_self with ⟨i, rfl⟩ | ⟨x, rfl⟩
        · cases hu with
          | bool _ => exact .inl ⟨_, rfl⟩
          | int _ _ => exact .inr (.inl ⟨_, _, rfl⟩)
        · cases hu
          exact .inr (.inr ⟨_, _, rfl⟩)
      · exact ih (fun q hq => hf q (List.mem_cons_of_mem _ hq)) hus v hm
def Is (h : Heap) (k : NestedKey) (b : Addr) : Prop := NestedIs h k (.ref b) ∧ k.depth ≤ 8 ∧ Flat k
theorem Is.nk (z : Is h k b) : (nestedKind P w).is h k b := ⟨z.1, z.2.1⟩
theorem Is.obj (z : Is h k b) : ∃ o vs n, h.get? b = some o ∧ o.cls = .type "tuple" ∧ o.data = .seq vs n ∧ ∀ v ∈ vs.toList, Pln v := by
  obtain ⟨z1, _, z3⟩ := z
  cases z1 with
  | tup e1 e2 e3 e4 => exact ⟨_, _, _, e1, e2, e3, pln_of z3 e4⟩
theorem Is.mono {h' : Heap} (z : Is h k b) (hk : ∀ a o vs n, h.get? a = some o → o.data = .seq vs n → h'.get? a = some o) : Is h' k b := ⟨NestedIs.at hk _ _ z.1, z.2⟩
abbrev hsh (w : World) (p : Addr × NestedKey) : Int := p.2.hash w
abbrev ents (w : World) (M : List (Addr × NestedKey)) : List (Int × Value) := M.map fun p => (hsh w p, Value.ref p.1)
structure SetK (w : World) (h : Heap) (a : Addr) (M : List (Addr × NestedKey)) (es : Array (Int × Value)) (ep : Nat) (t : SetTable) : Prop where
  obj : ∃ o, h.get? a = some o ∧ o.ExactSet ∧ o.data = .set es ep t
  ent : es.toList = ents w M
  tab : TabOk t (M.map (hsh w))
  dif : (M.map (·.2)).Nodup
  key : ∀ p ∈ M, Is h p.2 p.1
  led : w.params.followText "set-order" = true ∨ t.led = true
  free : M.length * 5 < t.mask * 3
  few : M.length < 64
variable {a : Addr} {M : List (Addr × NestedKey)} {es : Array (Int × Value)} {ep : Nat} {t : SetTable}
theorem Is.set {h' : Heap} {o : Obj} (z : Is h k b) (ho : h.get? a = some o) (hd : o.data = .set es ep t) (hs : Heap.SameBut a h h') : Is h' k b := z.mono fun c ob vs n e1 e2 => by
  refine (hs.2 c fun e => ?_).trans e1
  subst e
  rw [ho] at e1
  cases e1
  rw [hd] at e2
  cases e2
theorem SetK.still {h' : Heap} (z : SetK w h a M es ep t) (ha : ∀ o, h.get? a = some o → h'.get? a = some o) (hk : ∀ p ∈ M, Is h' p.2 p.1) : SetK w h' a M es ep t := by
  obtain ⟨o, e1, e2⟩ := z.obj
  exact { z with obj := ⟨o, ha o e1, e2⟩, key := hk }
end
end CC
namespace CC
open PySem PySem.Spec PyProof.Rows L2
end CC
namespace CC
open PySem PySem.Spec PyProof.Rows L2
section
variable {K : KW} {mg : Str → Option Value} {m0 : Mp} {H0 : Hp}
theorem SqK.eq {k : Bool} {K : PySem.W.Frag} {H : Hp} {a : Addr} {xs : List V} (h : SqK k K H a xs) : SqK k K H a xs := h
end
section
variable {X : Cx} {C : CallSem} {G : Nat → Option D} {W : WX} {e o : Expr} {A B : Xp} {apos cpos : Pos}
theorem prm1 {f : List D → Sto → R D} {ρ : Env} {S : Sto} : ev C G (.prm f (.cons A .nil)) ρ S = (ev C G A ρ S).bind fun x S1 => f [x] S1 := by
  show ((ev C G A ρ S).bind fun x S1 => (R.ok [] S1).bind fun xs S2 => .ok (x :: xs) S2).bind (fun xs S1 => f xs S1) = _
  cases ev C G A ρ S <;> rfl
theorem prm2 {f : List D → Sto → R D} {ρ : Env} {S : Sto} : ev C G (.prm f (.cons A (.cons B .nil))) ρ S = (ev C G A ρ S).bind fun x S1 => (ev C G B ρ S1).bind fun y S2 => f [x, y] S2 := by
  show ((ev C G A ρ S).bind fun x S1 => ((ev C G B ρ S1).bind fun y S2 => (R.ok [] S2).bind fun ys S3 => .ok (y :: ys) S3).bind fun xs S2 => .ok (x :: xs) S2).bind (fun xs S1 => f xs S1) = _
  cases ev C G A ρ S with
  | ok x S1 =>
    show (((ev C G B ρ S1).bind fun y S2 => (R.ok [] S2).bind fun ys S3 => .ok (y :: ys) S3).bind fun xs S2 => .ok (x :: xs) S2).bind (fun xs S1 => f xs S1) = _
    cases h : ev C G B ρ S1 with
    | ok y S2 => show _ = ((ev C G B ρ S1).bind fun y S2 => f [x, y] S2); rw [h]; rfl
    | exc c q S2 => show _ = ((ev C G B ρ S1).bind fun y S2 => f [x, y] S2); rw [h]; rfl
    | bad => show _ = ((ev C G B ρ S1).bind fun y S2 => f [x, y] S2); rw [h]; rfl
  | _ => rfl
end
end CC
namespace CC
open PySem PySem.Spec PyProof.Rows L2
end CC
namespace CC
open PySem PySem.Spec PyProof.Rows L2
def rPr (K : KW) (mg : Str → Option Value) (f : List D → Sto → R D) : List V → Hp → VK → Prop := fun vs H Q => ∃ W m S ds, RelA K mg m H S ∧ Rps K mg m H ds vs ∧ Post K mg W (Rp K mg) m H (f ds S) Q
end CC
namespace CC
open PySem PySem.Spec PyProof.Rows L2
end CC
namespace CC
open PySem PySem.Spec PyProof.Rows L2
structure MAt (P : Program) (w : World) (K : PySem.W.Frag) (mg : Str → Option Value) (base : Heap) (k : Nat) (c : Nat) (m : Str) (np : Nat) (kw : List (Nat × List Str × List Nat)) (cs : List D → Sto → R D) : Prop where
  ex : ∃ (x : Str) (Cl f : Addr) (fd : FuncData) (ps : List Str), insNames[c]? = some x ∧ mg x = some (.ref Cl) ∧ Cls K Cl ∧ Meth K Cl m f ∧ ps.length = np ∧ Binds K fd ps [] ∧ (∀ q ∈ kw, KB fd ps q) ∧ FnG P w K mg base k f fd ps cs
theorem MAt.mono {P : Program} {w : World} {K : PySem.W.Frag} {mg : Str → Option Value} {base : Heap} {j k c np : Nat} {m : Str} {kw : List (Nat × List Str × List Nat)} {cs : List D → Sto → R D} (h : MAt P w K mg base j c m np kw cs) (l : j ≤ k) : MAt P w K mg base k c m np kw cs := by
  obtain ⟨x, Cl, f, fd, ps, h1, h2, h3, h4, h5, h6, h7, h8⟩ := h.ex
  exact ⟨x, Cl, f, fd, ps, h1, h2, h3, h4, h5, h6, h7, h8.mono l⟩
end CC
namespace CC
open PySem PySem.Spec PyProof.Rows L2
end CC
namespace CC
open PySem PySem.Spec PyProof.Rows L2
end CC
namespace CC
open PySem PySem.Spec PyProof.Rows L2
end CC
namespace CC
open PySem PySem.Spec PyProof.Rows L2
def ltP (le : Bool) (p q : PyData) : Bool := if le then !PySem.W.dataLt q p else PySem.W.dataLt p q
end CC
namespace CC
open PySem PySem.Spec PyProof.Rows L2
end CC
namespace CC
open PySem PySem.Spec PyProof.Rows L2
end CC
namespace CC
open PySem PySem.Spec PyProof.Rows L2
end CC
namespace CC
open PySem PySem.Spec PyProof.Rows L2
end CC
namespace CC
open PySem PySem.Spec PyProof.Rows L2
end CC
namespace CC
open PySem PySem.Spec PyProof.Rows L2
end CC
namespace CC
open PySem PySem.Spec PyProof.Rows L2
section
variable {X : Cx} {C : CallSem} {G : Nat → Option D} {W : WX} {e : Expr} {A : Xp} {pos : Pos}
theorem de_prT {x : Str} {T : String} {f : List D → Sto → R D} {es : List Expr} {p : Pos} {cb : Bool} (cx : Ctx cb X) (hx : x ∈ bnames) (hc : CallR X (.type T) (rPr X.kw X.mg f)) (hg : Gl X x) (hv : bootBuiltins x = some (.type T)) (ha : PA X (e :: es) (tDs X C G W A))
    (hn : x ≠ "__name__" := by decide) (hdb : (x == ("__debug__" : Str)) = false := by decide) (he : starEach (e :: es) X.env = (false, eval e X.env) :: starEach es X.env := by rfl) (hpl : (backTo pos (starEach es X.env)).any (·.1) = false := by rfl) :
    PE X (.Call (.Name x p) (e :: es) [] pos) (tD X C G W (.prm f A)) :=
  PE_imp (pe_callTy hc hg (cx.nob x hx) hv ha hn hdb he hpl) fun σ H Q ⟨m, ρ, S, ra, re, p⟩ => ⟨m, ρ, S, ra, re, Post.imp (Post.bind p) fun xs H1 ⟨m1, ds, S1, l1, ra1, r1, p1⟩ => ⟨_, m1, S1, ds, ra1, r1, p1⟩⟩
end
end CC
namespace CC
open PySem PySem.Spec PyProof.Rows L2
end CC
namespace CC
open PySem PySem.Spec PyProof.Rows L2
def asStrF (xs : List D) (S : Sto) : R D := match xs with
  | [.str x] => .ok (.str x) S
  | _ => .bad
def splF (xs : List D) (S : Sto) : R D := match xs with
  | [.str x, .str y] => if (!(y.length == 0) && decide (x.length + 2 ≤ sizeLine)) = true then mk (.lst ((Txt.split x y).map D.str)) S else .bad
  | _ => .bad
def strsD : List D → Option (List Str)
  | [] => some []
  | .str x :: r => (strsD r).map (x :: ·)
  | _ => none
def joiF (xs : List D) (S : Sto) : R D := match xs with
  | [.str x, d] => match (lstD S d).bind strsD with
    | some ys => if (ys.map (·.length)).sum + ys.length * x.length ≤ 16777216 then .ok (.str (Txt.join x ys)) S else .bad
    | none => .bad
  | _ => .bad
theorem asStr_or {x : D} {S : Sto} : (∃ a, x = .str a ∧ asStrF [x] S = .ok (.str a) S) ∨ asStrF [x] S = .bad := by
  cases x <;> first | exact .inl ⟨_, rfl, rfl⟩ | exact .inr rfl
theorem strsD_eq : ∀ {ds : List D} {ys : List Str}, strsD ds = some ys → ds = ys.map D.str
  | [], ys, h => by cases h; rfl
  | d :: ds, ys, h => by
    cases d with
    | str x =>
      replace h : (strsD ds).map (x :: ·) = some ys := h
      cases q : strsD ds with
      | none => rw [q] at h; cases h
      | some zs =>
        rw [q] at h
        cases h
        rw [strsD_eq q]
        rfl
    | _ => cases h
section
variable {X : Cx} {C : CallSem} {G : Nat → Option D} {W : WX} {e o : Expr} {A B : Xp} {apos cpos pos p : Pos}
theorem rps_strs {kw : KW} {mg : Str → Option Value} {m : Mp} {H : Hp} : ∀ {ys : List Str}, Rps kw mg m H (ys.map D.str) (ys.map V.str)
  | [] => .nil
  | _ :: _ => .cons (.str _) rps_strs
theorem rps_strs_eq {kw : KW} {mg : Str → Option Value} {m : Mp} {H : Hp} : ∀ {ys : List Str} {vs : List V}, Rps kw mg m H (ys.map D.str) vs → vs = ys.map V.str
  | [], _, h => by cases h; rfl
  | y :: ys, _, h => by
    cases h with
    | cons h hs =>
      cases h
      rw [rps_strs_eq hs]
      rfl
theorem tM_str {r : V → List V → Hp → VK → Prop} {f : List D → Sto → R D} {σ : L2.St} {H : Hp} {Q : VK}
    (hf : ∀ (a : Str) (m : Mp) (S : Sto) (d : D) (y : V) (H : Hp), RelA X.kw X.mg m H S → Rp X.kw X.mg m H d y → Post X.kw X.mg (fun c d H' => W c d σ H') (Rp X.kw X.mg) m H (f [.str a, d] S) Q → r (.str a) [y] H Q)
    (h : tD X C G W (.prm f (.cons (.prm asStrF (.cons A .nil)) (.cons B .nil))) σ H Q) : tM1 r (tD X C G W A) (tD X C G W B) σ H Q := by
  obtain ⟨m, ρ, S, ra, re, p⟩ := h
  rw [prm2, prm1] at p
  replace p : Post X.kw X.mg (fun c d H' => W c d σ H') (Rp X.kw X.mg) m H ((ev C G A ρ S).bind fun x0 S0 => (asStrF [x0] S0).bind fun x S1 => (ev C G B ρ S1).bind fun y S2 => f [x, y] S2) Q := by
    cases h : ev C G A ρ S <;> rw [h] at p <;> exact p
  refine ⟨m, ρ, S, ra, re, Post.imp (Post.bind p) fun x H1 ⟨m1, d, S1, l1, ra1, r1, p1⟩ => ?_⟩
  rcases asStr_or (x := d) (S := S1) with ⟨a, rfl, q⟩ | q
  · rw [q] at p1
    cases r1
    refine ⟨⟨a, rfl⟩, m1, ρ, S1, ra1, re.mono l1, Post.imp (Post.bind p1) fun y H2 ⟨m2, d2, S2, l2, ra2, r2, p2⟩ => ?_⟩
    exact hf a m2 S2 d2 y H2 ra2 r2 p2
  · rw [q] at p1
    exact p1.elim
theorem de_split (ho : PE X o (tD X C G W A)) (he : PE X e (tD X C G W B)) (hs : starEach [e] X.env = [(false, eval e X.env)] := by rfl) (hbase : attributeBase o "split" X.env (eval o X.env) = eval o X.env := by rfl) (hline : (apos.endLine == pos.line) = true := by rfl) :
    PE X (.Call (.Attribute o "split" apos) [e] [] pos) (tD X C G W (.prm splF (.cons (.prm asStrF (.cons A .nil)) (.cons B .nil)))) :=
  PE_imp (pe_split ho he hs hbase hline) fun σ H Q h => tM_str (fun a m S d y H ra r p => by
    cases r with
    | str b =>
      replace p : Post X.kw X.mg (fun c d H' => W c d σ H') (Rp X.kw X.mg) m H (if (!(b.length == 0) && decide (a.length + 2 ≤ sizeLine)) = true then mk (.lst ((Txt.split a b).map D.str)) S else .bad) Q := p
      by_cases c : (!(b.length == 0) && decide (a.length + 2 ≤ sizeLine)) = true
      · rw [if_pos c] at p
        simp only [Bool.and_eq_true, Bool.not_eq_true', decide_eq_true_eq] at c
        exact ⟨a, b, rfl, rfl, c.1, c.2, post_mk ra rps_strs p⟩
      · rw [if_neg c] at p
        exact p.elim
    | _ => exact p.elim) h
theorem de_join (ho : PE X o (tD X C G W A)) (he : PE X e (tD X C G W B)) (hs : starEach [e] X.env = [(false, eval e X.env)] := by rfl) (hbase : attributeBase o "join" X.env (eval o X.env) = eval o X.env := by rfl) (hline : (apos.endLine == pos.line) = true := by rfl) :
    PE X (.Call (.Attribute o "join" apos) [e] [] pos) (tD X C G W (.prm joiF (.cons (.prm asStrF (.cons A .nil)) (.cons B .nil)))) :=
  PE_imp (pe_join ho he hs hbase hline) fun σ H Q h => tM_str (fun a m S d y H ra r p => by
    replace p : Post X.kw X.mg (fun c d H' => W c d σ H') (Rp X.kw X.mg) m H (match (lstD S d).bind strsD with
      | some ys => if (ys.map (·.length)).sum + ys.length * a.length ≤ 16777216 then .ok (.str (Txt.join a ys)) S else .bad
      | none => .bad) Q := p
    cases hd : lstD S d with
    | none => rw [hd] at p; exact p.elim
    | some ds =>
      rw [hd] at p
      cases hk : strsD ds with
      | none =>
        rw [show (some ds).bind strsD = none from hk] at p
        exact p.elim
      | some ys =>
        rw [show (some ds).bind strsD = some ys from hk] at p
        replace p : Post X.kw X.mg (fun c d H' => W c d σ H') (Rp X.kw X.mg) m H (if (ys.map (·.length)).sum + ys.length * a.length ≤ 16777216 then .ok (.str (Txt.join a ys)) S else .bad) Q := p
        by_cases c : (ys.map (·.length)).sum + ys.length * a.length ≤ 16777216
        · rw [if_pos c] at p
          have e := strsD_eq hk
          subst e
          obtain ⟨q, vs, rfl, h1, h2⟩ := ra.seqD r hd
          have e2 := rps_strs_eq h2
          subst e2
          exact ⟨a, q, ys, rfl, rfl, .inl h1, c, p.now ra (.str _)⟩
        · rw [if_neg c] at p
          exact p.elim) h
end
end CC
namespace CC
open PySem PySem.Spec PyProof.Rows L2 PySem.Calls PySem.NumText
theorem wp_text_big {M : Model} {A : Around} {E : Value → Shared → Prop} {s : Shared} {Q : Value → Shared → Prop} {v : Value} {text : List Nat} {n : Int}
    (hd : s.heap.NoDigits) (hr : (int_private% "readNumeral") (if (text.takeWhile (· != 0)).length ≤ 640 then 0 else 4300) 10 (text.takeWhile (· != 0)) = (int_private% "Numeral.value") n)
    (ha : ((text.takeWhile (· != 0)).length == text.length) = true) (h : Q (.int n s.toks) { s with toks := s.toks + 1 }) :
    wpAny M A ((int_private% "intFromText") v text 10) Q E s := by
  by_cases c : (text.takeWhile (· != 0)).length ≤ 640
  · rw [if_pos c] at hr
    exact PySem.W.KIN.wp_text c hr ha h
  · rw [if_neg c] at hr
    obtain ⟨mc, hns, hnone⟩ := hd
    obtain ⟨hp, g, d, tk, os⟩ := s
    have lim : ∀ {Q : Nat → Shared → Prop}, Q 4300 ⟨hp, g, d, tk, os⟩ → wpAny M A Builtin.intMaxStrDigits Q E ⟨hp, g, d, tk, os⟩ := fun {Q} hq => by
      unfold Builtin.intMaxStrDigits
      refine wpAny_bind (wpAny_nsGet hns ?_)
      rw [hnone]
      exact wpAny_pure hq
    have c' : ¬ (decide ((text.takeWhile (· != 0)).length ≤ 640) = true) := by simpa using c
    repeat (any_goals (first
      | assumption
      | (with_reducible refine wpAny_ite_false c ?_)
      | (with_reducible refine wpAny_ite_true (decide_eq_true ha) ?_)
      | (with_reducible refine lim ?_)
      | (refine wpAny_bind (lim ?_))
      | wp_step))
    all_goals (try rw [hr])
    all_goals (try dsimp only)
    repeat (any_goals (first
      | assumption
      | (with_reducible refine wpAny_ite_true (decide_eq_true ha) ?_)
      | wp_step))
theorem wp_new_big {M : Model} {A : Around} {E : Value → Shared → Prop} {s : Shared} {Q : Value → Shared → Prop} {x : PySem.Str} {u : Tok} {n : Int} (hd : s.heap.NoDigits) (hl : x.length ≤ 4300) (hn : PySem.intText? x = some n)
    (h : Q (.int n s.toks) { s with toks := s.toks + 1 }) : wpAny M A (Builtin.«int.__new__» ⟨[.type "int", .str x u], []⟩) (fun fin s' => ∃ v, fin = .done (.ret v) ∧ Q v s') E s := by
  obtain ⟨hp, g, d, tk, os⟩ := s
  have f1 := F.conv_sub_int
  have f2 := F.madeHere_int
  have f3 := PySem.W.KIN.str_int
  have f4 := PySem.W.KIN.str_idx
  have f5 := PySem.W.KIN.str_trunc
  have f6 : typeOf (.str x u) = pure (.type "str") := rfl
  have hr : (int_private% "readNumeral") (numLimitOf x) 10 (numSeenOf x) = (int_private% "Numeral.value") n ∧ ((numSeenOf x).length == (numTextOf x).length) = true := by
    rcases readAny x (Nat.le_trans hl (by decide)) with ⟨m, h1, h2, h3⟩ | ⟨h1, _⟩
    · rw [hn] at h1
      injection h1 with h1
      subst h1
      exact ⟨h3, h2⟩
    · rw [hn] at h1
      cases h1
  have hk := PySem.W.KIN.Hid.mk (And.intro hd hr)
  clear hd hr hl hn
  repeat (any_goals (first
    | assumption
    | ((with_reducible show wpAny _ _ ((int_private% "intFromText") _ _ _) _ _ _); refine wp_text_big hk.out.1 hk.out.2.1 hk.out.2.2 ?_)
    | wp_step))
  all_goals first | exact ⟨_, rfl, h⟩ | skip
theorem call_text_big {prog : Program} {w : World} {A : Around} {E : Value → Shared → Prop} {s : Shared} {Q : Value → Shared → Prop} {x : PySem.Str} {t : Tok} {n : Int} (hd : s.heap.NoDigits) (hn : PySem.intText? x = some n) (hl : x.length ≤ 4300)
    (h : Q (.int n s.toks) { s with toks := s.toks + 1 }) : wpAny (model prog w) A (call (.type "int") [.str x t]) Q E s := by
  have g : Meets (Builtin.«int.__new__» ⟨[.type "int", .str x t], []⟩) (fun A R s => s.heap.NoDigits ∧ R (.ok (.ret (.int n s.toks))) { s with toks := s.toks + 1 }) := fun prog w A R s ⟨hd, hq⟩ =>
    wpAny_mono (wp_new_big (Q := fun v s' => R (.ok (.ret v)) s') hd hl hn hq) (fun fin s' h' => by obtain ⟨v, rfl, hv⟩ := h'; exact hv) fun _ _ x => x
  exact call_int_1 g ⟨hd, rfl, h⟩
def intBF (xs : List D) (S : Sto) : R D := match xs with
  | [.str x] => match PySem.intText? x with
    | some n => if x.length ≤ 4300 then .ok (.int n) S else .bad
    | none => .bad
  | _ => .bad
def strBF (xs : List D) (S : Sto) : R D := match xs with
  | [.int i] => if i.natAbs.log2 < 14000 then .ok (.str (toString i)) S else .bad
  | _ => .bad
def mulSF (xs : List D) (S : Sto) : R D := match xs with
  | [.str x, .int n] => if (decide (x.length ≤ 16) && (decide (0 ≤ n) && decide (n ≤ 1048576))) = true then .ok (.str (Txt.mul x n)) S else .bad
  | _ => .bad
section
variable {X : Cx} {C : CallSem} {G : Nat → Option D} {W : WX} {e o : Expr} {A B : Xp} {apos cpos pos p : Pos}
abbrev NoDig (K : PySem.W.Frag) : Prop := PySem.W.nsIn K cStatics "sys.int_max_str_digits" = some none
theorem nodig_of {pins : List (Addr × Obj)} {σ : L2.St} {H : Hp} {s : Shared} (I : Inv X pins σ H s) (hK : NoDig X.K) : s.heap.NoDigits := by
  obtain ⟨mc, h1, _⟩ := I.ok.mod.nolimit
  exact ⟨mc, h1.keeps fun b o e => (I.bs b o e).1, PySem.W.ns_none_of I.ok.mod.kin h1 hK⟩
theorem bi_intL (hK : NoDig X.K) : CallR X (.type "int") (rPr X.kw X.mg intBF) := by
  intro pins s σ H xs us Q I r ⟨W, m, S, ds, ra, rs, p⟩
  match ds, p, rs with
  | [], p, rs => exact p.elim
  | d :: e :: l, p, rs => cases d <;> exact p.elim
  | [d], p, rs =>
    obtain ⟨x, rfl, rx⟩ := rps1 rs
    cases rx with
    | str x =>
      replace p : Post X.kw X.mg W (Rp X.kw X.mg) m H (match PySem.intText? x with
        | some n => if x.length ≤ 4300 then .ok (.int n) S else .bad
        | none => .bad) Q := p
      cases h : PySem.intText? x with
      | none => rw [h] at p; exact p.elim
      | some n =>
        rw [h] at p
        replace p : Post X.kw X.mg W (Rp X.kw X.mg) m H (if x.length ≤ 4300 then .ok (.int n) S else .bad) Q := p
        by_cases c : x.length ≤ 4300
        · rw [if_pos c] at p
          obtain ⟨u, rfl, t, rfl⟩ := vals1 r
          exact call_text_big (nodig_of I hK) h c ⟨.int n, H, I.tok _, ⟨_, rfl⟩, p.now ra (.int _)⟩
        · rw [if_neg c] at p
          exact p.elim
    | _ => exact p.elim
theorem pow_14000 : 2 ^ 14000 ≤ 10 ^ 4300 := by decide +kernel
theorem bi_strL (hK : NoDig X.K) (hc : X.calm = true) : CallR X (.type "str") (rPr X.kw X.mg strBF) := by
  intro pins s σ H xs us Q I r ⟨W, m, S, ds, ra, rs, p⟩
  match ds, p, rs with
  | [], p, rs => exact p.elim
  | d :: e :: l, p, rs => cases d <;> exact p.elim
  | [d], p, rs =>
    obtain ⟨x, rfl, rx⟩ := rps1 rs
    cases rx with
    | int i =>
      replace p : Post X.kw X.mg W (Rp X.kw X.mg) m H (if i.natAbs.log2 < 14000 then .ok (.str (toString i)) S else .bad) Q := p
      by_cases c : i.natAbs.log2 < 14000
      · rw [if_pos c] at p
        obtain ⟨u, rfl, t, rfl⟩ := vals1 r
        have hlt : i.natAbs < 10 ^ 4300 := Nat.lt_of_lt_of_le (lt_of_log2 c) pow_14000
        exact str_of_int_or (I.ok.hd hc) (nodig_of I hK) (fun _ => ⟨.str (toString i), H, I.tok _, ⟨_, rfl⟩, p.now ra (.str _)⟩) fun h => absurd hlt (Nat.not_lt.mpr h)
      · rw [if_neg c] at p
        exact p.elim
    | _ => exact p.elim
theorem op_mulS : OpR X (binaryOp .Mult) (rB X.kw X.mg fun d e S => mulSF [d, e] S) := by
  intro pins s σ H x y v u Q I rx ry ⟨W, m, S, d, e, ra, rd, re, p⟩
  cases rd with
  | str a =>
    cases re with
    | int n =>
      replace p : Post X.kw X.mg W (Rp X.kw X.mg) m H (if (decide (a.length ≤ 16) && (decide (0 ≤ n) && decide (n ≤ 1048576))) = true then .ok (.str (Txt.mul a n)) S else .bad) Q := p
      by_cases c : (decide (a.length ≤ 16) && (decide (0 ≤ n) && decide (n ≤ 1048576))) = true
      · rw [if_pos c] at p
        simp only [Bool.and_eq_true, decide_eq_true_eq] at c
        obtain ⟨t, rfl⟩ := rx
        obtain ⟨t2, rfl⟩ := ry
        exact SB.mul (PyProof.Rows.mulOk_of 16 1048576 c.1 (by omega) (by omega) (by decide) (by decide)) fun t' k => ⟨.str (Txt.mul a n), H, I.tok _, ⟨_, rfl⟩, p.now ra (.str _)⟩
      · rw [if_neg c] at p
        exact p.elim
    | _ => exact p.elim
  | _ => cases re <;> exact p.elim
theorem de_mulS (ha : PE X e (tD X C G W A)) (hb : PE X o (tD X C G W B)) : PE X (.BinOp e .Mult o pos) (tD X C G W (.prm mulSF (.cons A (.cons B .nil)))) :=
  PE_imp (pe_op op_mulS ha hb) fun σ H Q ⟨m, ρ, S, ra, re, p⟩ => by
    rw [prm2] at p
    exact ⟨m, ρ, S, ra, re, Post.imp (Post.bind p) fun x H1 ⟨m1, d, S1, l1, ra1, r1, p1⟩ =>
      ⟨m1, ρ, S1, ra1, re.mono l1, Post.imp (Post.bind p1) fun y H2 ⟨m2, d2, S2, l2, ra2, r2, p2⟩ => ⟨_, m2, S2, d, d2, ra2, r1.mono l2, r2, p2⟩⟩⟩
end
end CC
namespace CC
open PySem PySem.Spec PyProof.Rows L2
abbrev Eo : Nat → List D → Sto → Prop := fun _ _ _ => False
def WR {α : Type} (r : R α) (Q : α → Sto → Prop) (E : Nat → List D → Sto → Prop) : Prop := match r with
  | .ok a S => Q a S
  | .exc c p S => E c p S
  | .bad => False
structure Po where
  nx : Env → Sto → Prop
  rt : D → Sto → Prop
  bk : Env → Sto → Prop
  ct : Env → Sto → Prop
  ex : Nat → List D → Env → Sto → Prop
def Ws (r : Rs) (p : Po) : Prop := match r with
  | .nx ρ S => p.nx ρ S
  | .rt d S => p.rt d S
  | .bk ρ S => p.bk ρ S
  | .ct ρ S => p.ct ρ S
  | .exc c q ρ S => p.ex c q ρ S
  | .bad => False
def optP {α : Type} (o : Option α) (f : α → Prop) : Prop := match o with
  | some a => f a
  | none => False
@[simp] theorem optP_some {α : Type} (a : α) (f : α → Prop) : optP (some a) f = f a := rfl
@[simp] theorem optP_none {α : Type} (f : α → Prop) : optP none f = False := rfl
@[simp ↓] theorem optP_match {α : Type} {o : Option α} {f : α → Prop} : optP o f = (match o with | some a => f a | none => False) := rfl
@[simp] theorem optP_map {α β : Type} (o : Option α) (g : α → β) (f : β → Prop) : optP (o.map g) f = optP o (fun a => f (g a)) := by cases o <;> rfl
theorem WR.mono {α : Type} {r : R α} {Q Q' : α → Sto → Prop} {E E' : Nat → List D → Sto → Prop} (h : WR r Q E) (i : ∀ a S, Q a S → Q' a S) (j : ∀ c p S, E c p S → E' c p S) : WR r Q' E' := by
  cases r with
  | ok a S => exact i a S h
  | exc c p S => exact j c p S h
  | bad => exact h
theorem Ws.mono {r : Rs} {p q : Po} (h : Ws r p) (h1 : ∀ ρ S, p.nx ρ S → q.nx ρ S) (h2 : ∀ d S, p.rt d S → q.rt d S) (h3 : ∀ ρ S, p.bk ρ S → q.bk ρ S) (h4 : ∀ ρ S, p.ct ρ S → q.ct ρ S) (h5 : ∀ c l ρ S, p.ex c l ρ S → q.ex c l ρ S) : Ws r q := by
  cases r with
  | nx _ _ => exact h1 _ _ h
  | rt _ _ => exact h2 _ _ h
  | bk _ _ => exact h3 _ _ h
  | ct _ _ => exact h4 _ _ h
  | exc _ _ _ _ => exact h5 _ _ _ _ h
  | bad => exact h
theorem wp_trim {S : Sto} {r : R D} {Q : D → Sto → Prop} {E : Nat → List D → Sto → Prop} : WR (trim S r) Q E = WR r (fun d S' => Q d (cutS S (d.lt S.length) S')) (fun c p S' => E c p (cutS S (ltL S.length p) S')) := by cases r <;> rfl
theorem wp_bind {α β : Type} {r : R α} {f : α → Sto → R β} {Q : β → Sto → Prop} {E : Nat → List D → Sto → Prop} : WR (r.bind f) Q E = WR r (fun a S => WR (f a S) Q E) E := by cases r <;> rfl
section
variable {C : CallSem} {G : Nat → Option D} {ρ : Env} {S : Sto} {Q : D → Sto → Prop} {E : Nat → List D → Sto → Prop} {a b c : Xp}
@[simp ↓] theorem w_ok {α : Type} {x : α} {Q : α → Sto → Prop} : WR (.ok x S) Q E = Q x S := rfl
@[simp ↓] theorem w_exc {α : Type} {n : Nat} {p : List D} {Q : α → Sto → Prop} : WR (.exc n p S : R α) Q E = E n p S := rfl
@[simp ↓] theorem w_bad {α : Type} {Q : α → Sto → Prop} : WR (.bad : R α) Q E = False := rfl
@[simp ↓] theorem w_opt {α : Type} {o : Option α} {Q : α → Sto → Prop} : WR (R.opt o S) Q E = optP o (fun x => Q x S) := by cases o <;> rfl
@[simp ↓] theorem w_mk {so : SO} : WR (mk so S) Q E = Q (.loc S.length) (S ++ [so]) := rfl
@[simp ↓] theorem w_var {i : Nat} : WR (ev C G (.var i) ρ S) Q E = optP (ρ[i]?.bind id) (fun x => Q x S) := by show WR (R.opt _ S) Q E = _; exact w_opt
@[simp ↓] theorem w_glo {i : Nat} : WR (ev C G (.glo i) ρ S) Q E = optP (G i) (fun x => Q x S) := by show WR (R.opt _ S) Q E = _; exact w_opt
@[simp ↓] theorem w_non : WR (ev C G .non ρ S) Q E = Q .non S := rfl
@[simp ↓] theorem w_bl {k : Bool} : WR (ev C G (.bl k) ρ S) Q E = Q (.bl k) S := rfl
@[simp ↓] theorem w_int {i : Int} : WR (ev C G (.int i) ρ S) Q E = Q (.int i) S := rfl
@[simp ↓] theorem w_str {x : Str} : WR (ev C G (.str x) ρ S) Q E = Q (.str x) S := rfl
@[simp ↓] theorem w_tyc {t : String} : WR (ev C G (.tyc t) ρ S) Q E = Q (.ty t) S := rfl
@[simp ↓] theorem w_bin {op : Operator} : WR (ev C G (.bin op a b) ρ S) Q E = WR (ev C G a ρ S) (fun x S1 => WR (ev C G b ρ S1) (fun y S2 => WR (binD op x y S2) Q E) E) E := by
  show WR (R.bind _ fun x S1 => R.bind _ _) Q E = _
  simp only [wp_bind]
def gdP (t : List (Str × D)) (x : D) (f : D → Prop) : Prop := match x with
  | .str z => optP (t.lookup z) f
  | _ => False
@[simp] theorem gdP_str {t : List (Str × D)} {z : Str} {f : D → Prop} : gdP t (.str z) f = optP (t.lookup z) f := rfl
def asIP (x : D) (f : Int → Prop) : Prop := match x with
  | .int i => f i
  | _ => False
@[simp] theorem asIP_int {i : Int} {f : Int → Prop} : asIP (.int i) f = f i := rfl
@[simp ↓] theorem w_asI {r : R D} {Q : Int → Sto → Prop} : WR (asI r) Q E = WR r (fun x S => asIP x fun i => Q i S) E := by
  cases r with
  | ok x S => cases x <;> rfl
  | _ => rfl
@[simp ↓] theorem w_asT {r : R D} {Q : Bool → Sto → Prop} : WR (asT r) Q E = WR r (fun x S => optP (truth x S) fun t => Q t S) E := by
  cases r with
  | ok x S => exact w_opt
  | _ => rfl
@[simp ↓] theorem w_neg : WR (ev C G (.neg a) ρ S) Q E = WR (ev C G a ρ S) (fun x S1 => asIP x fun i => Q (.int (-i)) S1) E := by
  show WR (R.bind (asI _) _) Q E = _
  rw [wp_bind, w_asI]
  rfl
@[simp ↓] theorem w_nt : WR (ev C G (.nt a) ρ S) Q E = WR (ev C G a ρ S) (fun x S1 => optP (truth x S1) fun t => Q (.bl (!t)) S1) E := by
  show WR (R.bind (asT _) _) Q E = _
  rw [wp_bind, w_asT]
  rfl
def selO (o : Option Bool) (p q : Prop) : Prop := match o with
  | some true => p
  | some false => q
  | none => False
@[simp ↓] theorem selO_match {o : Option Bool} {p q : Prop} : selO o p q = (match o with | some t => (if t = true then p else q) | none => False) := by cases o with
  | none => rfl
  | some k => cases k <;> rfl
@[simp] theorem selO_some {k : Bool} {p q : Prop} : selO (some k) p q = if k = true then p else q := by cases k <;> rfl
@[simp] theorem selO_none {p q : Prop} : selO none p q = False := rfl
@[simp ↓] theorem w_and : WR (ev C G (.and a b) ρ S) Q E = WR (ev C G a ρ S) (fun x S1 => selO (truth x S1) (WR (ev C G b ρ S1) Q E) (Q x S1)) E := by
  show WR (R.bind _ fun x S1 => _) Q E = _
  rw [wp_bind]
  congr 1
  funext x S1
  cases h : truth x S1 with
  | none => rfl
  | some t => cases t <;> rfl
@[simp ↓] theorem w_or : WR (ev C G (.or a b) ρ S) Q E = WR (ev C G a ρ S) (fun x S1 => selO (truth x S1) (Q x S1) (WR (ev C G b ρ S1) Q E)) E := by
  show WR (R.bind _ fun x S1 => _) Q E = _
  rw [wp_bind]
  congr 1
  funext x S1
  cases h : truth x S1 with
  | none => rfl
  | some t => cases t <;> rfl
@[simp ↓] theorem w_cmp {op : CmpOp} : WR (ev C G (.cmp op a b) ρ S) Q E = WR (ev C G a ρ S) (fun x S1 => WR (ev C G b ρ S1) (fun y S2 => optP (cmpD op x y S2) fun t => Q (.bl t) S2) E) E := by
  show WR (R.bind _ fun x S1 => R.bind _ _) Q E = _
  simp only [wp_bind, w_opt, optP_map]
@[simp ↓] theorem w_cmp2 {op op' : CmpOp} : WR (ev C G (.cmp2 op op' a b c) ρ S) Q E = WR (ev C G a ρ S) (fun x S1 => WR (ev C G b ρ S1) (fun y S2 => selO (cmpD op x y S2) (WR (ev C G c ρ S2) (fun z S3 => optP (cmpD op' y z S3) fun t => Q (.bl t) S3) E) (Q (.bl false) S2)) E) E := by
  show WR (R.bind _ fun x S1 => R.bind _ _) Q E = _
  simp only [wp_bind]
  congr 1
  funext x S1
  congr 1
  funext y S2
  cases h : cmpD op x y S2 with
  | none => rfl
  | some t =>
    cases t with
    | false => rfl
    | true =>
      show WR (R.bind _ _) Q E = _
      simp only [wp_bind, w_opt, optP_map]
      rfl
@[simp ↓] theorem w_ife : WR (ev C G (.ife c a b) ρ S) Q E = WR (ev C G c ρ S) (fun x S1 => selO (truth x S1) (WR (ev C G a ρ S1) Q E) (WR (ev C G b ρ S1) Q E)) E := by
  show WR (R.bind (asT _) _) Q E = _
  rw [wp_bind, w_asT]
  congr 1
  funext x S1
  cases truth x S1 with
  | none => rfl
  | some t => cases t <;> rfl
@[simp ↓] theorem w_call {f : Nat} {es : Xp} : WR (ev C G (.call f es) ρ S) Q E = WR (evs C G es ρ S) (fun xs S1 => WR (C f xs S1) Q E) E := by
  show WR (R.bind _ _) Q E = _
  rw [wp_bind]
@[simp ↓] theorem w_callv {t : List (Str × Nat)} {es : Xp} : WR (ev C G (.callv t a es) ρ S) Q E = WR (ev C G a ρ S) (fun g S0 => optP (fnIx t g) fun i => WR (evs C G es ρ S0) (fun xs S1 => WR (C i xs S1) Q E) E) E := by
  show WR (R.bind _ fun g S0 => _) Q E = _
  rw [wp_bind]
  congr 1
  funext g S0
  cases fnIx t g with
  | none => rfl
  | some i => show WR (R.bind _ _) Q E = _; rw [wp_bind]; rfl
@[simp] theorem fnIx_fn {t : List (Str × Nat)} {z : Str} : fnIx t (.fn z) = t.lookup z := rfl
@[simp ↓] theorem w_dd {es : Xp} : WR (ev C G (.dd es) ρ S) Q E = WR (evs C G es ρ (S ++ [.dic []])) (fun xs S1 => WR (ddD S.length xs S1) Q E) E := by
  show WR (R.bind _ _) Q E = _
  rw [wp_bind]
def ddP (xs : List D) (f : List (Key × D) → Prop) : Prop := xs.length ≤ 30 ∧ optP (ddL xs []) f
@[simp ↓] theorem w_ddD {xs : List D} : WR (ddD S.length xs (S ++ [.dic []])) Q E = ddP xs fun kvs => Q (.loc S.length) (S ++ [.dic kvs]) := by
  unfold ddD ddP
  have e : (S ++ [SO.dic []])[S.length]? = some (.dic []) := by simp
  rw [e]
  cases h : ddL xs [] with
  | none => simp [WR, optP]
  | some kvs =>
    simp only [optP]
    by_cases c : xs.length ≤ 30
    · rw [if_pos c]
      have e2 : (S ++ [SO.dic []]).set S.length (.dic kvs) = S ++ [.dic kvs] := by
        rw [List.set_append_right _ _ (Nat.le_refl _)]
        simp
      rw [e2]
      simp [WR, c]
    · rw [if_neg c]
      simp [WR, c]
@[simp ↓] theorem w_ddn {es : Xp} : WR (ev C G (.ddn es) ρ S) Q E = WR (evs C G es ρ (S ++ [.dn []])) (fun xs S1 => WR (ddnD S.length xs S1) Q E) E := by
  show WR (R.bind _ _) Q E = _
  rw [wp_bind]
def ddnP (xs : List D) (f : List (NestedKey × D) → Prop) : Prop := xs.length ≤ 30 ∧ optP (ddnL xs []) f
@[simp ↓] theorem w_ddnD {xs : List D} : WR (ddnD S.length xs (S ++ [.dn []])) Q E = ddnP xs fun kvs => Q (.loc S.length) (S ++ [.dn kvs]) := by
  unfold ddnD ddnP
  have e : (S ++ [SO.dn []])[S.length]? = some (.dn []) := by simp
  rw [e]
  cases h : ddnL xs [] with
  | none => simp [WR, optP]
  | some kvs =>
    simp only [optP]
    by_cases c : xs.length ≤ 30
    · rw [if_pos c]
      have e2 : (S ++ [SO.dn []]).set S.length (.dn kvs) = S ++ [.dn kvs] := by
        rw [List.set_append_right _ _ (Nat.le_refl _)]
        simp
      rw [e2]
      simp [WR, c]
    · rw [if_neg c]
      simp [WR, c]
@[simp ↓] theorem w_xfld {f : Str} : WR (ev C G (.xfld f a) ρ S) Q E = WR (ev C G a ρ S) (fun x S1 => optP (fldD f x) fun y => Q y S1) E := by
  show WR (R.bind _ fun x S1 => _) Q E = _
  simp only [wp_bind, w_opt]
@[simp] theorem fldD_dir {d : D} : fldD "direction" (.exn 9 [d]) = some d := rfl
@[simp] theorem fldD_lim {d : D} : fldD "limit" (.exn 10 [d]) = some d := rfl
@[simp ↓] theorem w_mkx {c : Nat} {es : Xp} : WR (ev C G (.mkx c es) ρ S) Q E = WR (evs C G es ρ S) (fun xs S1 => Q (.exn c xs) S1) E := by
  show WR (R.bind _ fun x S1 => _) Q E = _
  rw [wp_bind]
  rfl
@[simp] theorem permL_nil {α : Type} {vs : List α} : permL vs [] = some [] := rfl
@[simp] theorem permL_cons {α : Type} {vs : List α} {q : Nat} {qs : List Nat} : permL vs (q :: qs) = (vs[q]?).bind fun v => (permL vs qs).map (v :: ·) := rfl
@[simp ↓] theorem w_callk {f : Nat} {es ks : Xp} {perm : List Nat} : WR (ev C G (.callk f es ks perm) ρ S) Q E = WR (evs C G es ρ S) (fun xs S1 => WR (evs C G ks ρ S1) (fun ys S2 => optP (permL (xs ++ ys) perm) fun zs => WR (C f zs S2) Q E) E) E := by
  show WR (R.bind _ fun xs S1 => R.bind _ _) Q E = _
  simp only [wp_bind]
  congr 1
  funext x S1
  congr 1
  funext y S2
  cases permL (x ++ y) perm <;> rfl
@[simp ↓] theorem w_bi {f : Bi} {es : Xp} : WR (ev C G (.bi f es) ρ S) Q E = WR (evs C G es ρ S) (fun xs S1 => WR (biD f xs S1) Q E) E := by
  show WR (R.bind _ _) Q E = _
  rw [wp_bind]
@[simp ↓] theorem w_callvk {t : List (Str × Nat)} {es ks : Xp} {perm : List Nat} : WR (ev C G (.callvk t a es ks perm) ρ S) Q E = WR (ev C G a ρ S) (fun g S0 => optP (fnIx t g) fun i => WR (evs C G es ρ S0) (fun xs S1 => WR (evs C G ks ρ S1) (fun ys S2 => optP (permL (xs ++ ys) perm) fun zs => WR (C i zs S2) Q E) E) E) E := by
  show WR (R.bind _ fun g S0 => _) Q E = _
  rw [wp_bind]
  congr 1
  funext g S0
  cases fnIx t g with
  | none => rfl
  | some i =>
    show WR (R.bind _ fun xs S1 => R.bind _ _) Q E = _
    simp only [wp_bind]
    show _ = WR _ _ _
    congr 1
    funext x S1
    congr 1
    funext y S2
    cases permL (x ++ y) perm <;> rfl
@[simp ↓] theorem w_mt {m : Mt} {o es : Xp} : WR (ev C G (.mt m o es) ρ S) Q E = WR (ev C G o ρ S) (fun x S1 => isLst x S1 = true ∧ WR (evs C G es ρ S1) (fun xs S2 => WR (mtD m x xs S2) Q E) E) E := by
  show WR (R.bind _ fun x S1 => _) Q E = _
  rw [wp_bind]
  congr 1
  funext x S1
  cases h : isLst x S1 with
  | false => simp
  | true => simp [wp_bind]
@[simp ↓] theorem w_ix : WR (ev C G (.ix a b) ρ S) Q E = WR (ev C G a ρ S) (fun x S1 => WR (ev C G b ρ S1) (fun y S2 => optP (ixD x y S2) fun z => Q z S2) E) E := by
  show WR (R.bind _ fun x S1 => R.bind _ _) Q E = _
  simp only [wp_bind, w_opt]
@[simp ↓] theorem w_gdx {t : List (Str × D)} : WR (ev C G (.gdx t a) ρ S) Q E = WR (ev C G a ρ S) (fun x S1 => gdP t x fun z => Q z S1) E := by
  show WR (R.bind _ fun x S1 => _) Q E = _
  rw [wp_bind]
  congr 1
  funext x S1
  cases x with
  | str z => exact w_opt
  | _ => rfl
@[simp ↓] theorem w_sl {l h : Xp} : WR (ev C G (.sl a l h) ρ S) Q E = WR (ev C G a ρ S) (fun x S1 => WR (evp C G l ρ S1) (fun y S2 => WR (evp C G h ρ S2) (fun z S3 => WR (slD x y z S3) Q E) E) E) E := by
  show WR (R.bind _ fun x S1 => R.bind _ fun y S2 => R.bind _ _) Q E = _
  simp only [wp_bind]
@[simp ↓] theorem w_frz : WR (ev C G (.frzv a) ρ S) Q E = WR (ev C G a ρ S) (fun x S1 => WR (trim S (frzD x S1)) Q E) (fun c p S1 => E c p (cutS S (ltL S.length p) S1)) := by
  show WR (trim S (R.bind _ _)) Q E = _
  rw [wp_trim, wp_bind]
  simp only [wp_trim]
@[simp ↓] theorem w_rev : WR (ev C G (.rev a) ρ S) Q E = WR (ev C G a ρ S) (fun x S1 => WR (revD x S1) Q E) E := by
  show WR (R.bind _ _) Q E = _
  rw [wp_bind]
@[simp ↓] theorem w_tup {es : Xp} : WR (ev C G (.tup es) ρ S) Q E = WR (evs C G es ρ S) (fun xs S1 => xs.length ≤ 1000 ∧ Q (.tup xs) S1) E := by
  show WR (R.bind _ _) Q E = _
  rw [wp_bind]
  congr 1
  funext x S1
  by_cases h : x.length ≤ 1000
  · simp [h]
  · simp [h]
@[simp ↓] theorem w_lst {es : Xp} : WR (ev C G (.lst es) ρ S) Q E = WR (evs C G es ρ S) (fun xs S1 => xs.length ≤ 1000 ∧ Q (.loc S1.length) (S1 ++ [.lst xs])) E := by
  show WR (R.bind _ _) Q E = _
  rw [wp_bind]
  congr 1
  funext x S1
  by_cases h : x.length ≤ 1000
  · simp [h]
  · simp [h]
@[simp ↓] theorem w_lc {it tg el cd : Xp} {vs : List Nat} : WR (ev C G (.lc it tg el cd vs) ρ S) Q E = WR (evi C G it ρ S) (fun src S1 => WR (lcl src tg (fun ρ1 S2 => asT (ev C G cd ρ1 S2)) (fun ρ1 S2 => ev C G el ρ1 S2) (wipeE ρ vs) (src.size S1 + 1) 0 [] S1) (fun ds S2 => Q (.loc S2.length) (S2 ++ [.lst ds])) E) E := by
  show WR (R.bind _ fun x S1 => R.bind _ _) Q E = _
  simp only [wp_bind, w_mk]
@[simp ↓] theorem w_lc2 {it tg cd it1 tg1 cd1 el : Xp} {vs vs1 : List Nat} : WR (ev C G (.lc2 it tg cd it1 tg1 cd1 el vs vs1) ρ S) Q E = WR (evi C G it ρ S) (fun src S1 => WR (lcl2 src tg (fun ρ1 S2 => asT (ev C G cd ρ1 S2)) (fun ρ1 acc S2 => match evi C G it1 ρ1 S2 with
      | .ok src1 S3 => lcl src1 tg1 (fun ρ2 S4 => asT (ev C G cd1 ρ2 S4)) (fun ρ2 S4 => ev C G el ρ2 S4) (wipeE ρ1 vs1) (src1.size S3 + 1) 0 acc S3
      | _ => .bad) (wipeE ρ vs) (src.size S1 + 1) 0 [] S1) (fun ds S2 => Q (.loc S2.length) (S2 ++ [.lst ds])) E) E := by
  show WR (R.bind _ fun x S1 => R.bind _ _) Q E = _
  simp only [wp_bind, w_mk] <;> rfl
@[simp ↓] theorem w_evs_nil {Q : List D → Sto → Prop} : WR (evs C G .nil ρ S) Q E = Q [] S := rfl
@[simp ↓] theorem w_evs_cons {Q : List D → Sto → Prop} : WR (evs C G (.cons a b) ρ S) Q E = WR (ev C G a ρ S) (fun x S1 => WR (evs C G b ρ S1) (fun xs S2 => Q (x :: xs) S2) E) E := by
  show WR (R.bind _ fun x S1 => R.bind _ _) Q E = _
  simp only [wp_bind, w_ok]
@[simp ↓] theorem w_evp_nil {Q : Option Int → Sto → Prop} : WR (evp C G .nil ρ S) Q E = Q none S := rfl
@[simp ↓] theorem w_evp_cons {Q : Option Int → Sto → Prop} : WR (evp C G (.cons a b) ρ S) Q E = WR (ev C G a ρ S) (fun x S1 => asIP x fun i => Q (some i) S1) E := by
  show WR (R.bind (asI _) _) Q E = _
  rw [wp_bind, w_asI]
  rfl
variable {Q' : Src → Sto → Prop}
@[simp ↓] theorem w_itr : WR (evi C G (.itr a) ρ S) Q' E = WR (ev C G a ρ S) (fun x S1 => optP (srcOf x S1) fun s => Q' s S1) E := by
  show WR (R.bind _ _) Q' E = _
  simp only [wp_bind, w_opt]
theorem if_bad {α : Type} {p : Prop} [Decidable p] {x : R α} {Q : α → Sto → Prop} : WR (if p then x else .bad) Q E = (p ∧ WR x Q E) := by by_cases h : p <;> simp [h]
@[simp ↓] theorem w_rng1 : WR (evi C G (.rng1 a) ρ S) Q' E = WR (ev C G a ρ S) (fun x S1 => asIP x fun i => small62 i = true ∧ Q' (.ds (rangeD 0 i.toNat)) S1) E := by
  show WR (R.bind (asI _) _) Q' E = _
  simp only [wp_bind, w_asI, if_bad, w_ok]
@[simp ↓] theorem w_rng2 : WR (evi C G (.rng2 a b) ρ S) Q' E = WR (ev C G a ρ S) (fun x S1 => asIP x fun i => WR (ev C G b ρ S1) (fun y S2 => asIP y fun j => (small62 i && small62 j) = true ∧ Q' (.ds (rangeD i (j - i).toNat)) S2) E) E := by
  show WR (R.bind (asI _) fun i S1 => R.bind (asI _) _) Q' E = _
  simp only [wp_bind, w_asI, if_bad, w_ok]
def zipP (x y : D) (S : Sto) (Q : Src → Prop) : Prop := match x, y with
  | .loc n, .loc k => (lstAt S n).isSome = true ∧ (lstAt S k).isSome = true ∧ Q (.zip n k)
  | .tup xs, .tup ys => Q (.ds ((xs.zip ys).map fun p => .tup [p.1, p.2]))
  | .fl xs, .fl ys => Q (.ds ((xs.zip ys).map fun p => .tup [p.1, p.2]))
  | .fl xs, .tup ys => Q (.ds ((xs.zip ys).map fun p => .tup [p.1, p.2]))
  | .loc n, .fl ys => (lstAt S n).isSome = true ∧ Q (.zipF n ys)
  | _, _ => False
@[simp] theorem zipP_loc {n k : Nat} {Q : Src → Prop} : zipP (.loc n) (.loc k) S Q = ((lstAt S n).isSome = true ∧ (lstAt S k).isSome = true ∧ Q (.zip n k)) := rfl
@[simp] theorem zipP_tup {xs ys : List D} {Q : Src → Prop} : zipP (.tup xs) (.tup ys) S Q = Q (.ds ((xs.zip ys).map fun p => .tup [p.1, p.2])) := rfl
@[simp] theorem zipP_lf {n : Nat} {ys : List D} {Q : Src → Prop} : zipP (.loc n) (.fl ys) S Q = ((lstAt S n).isSome = true ∧ Q (.zipF n ys)) := rfl
@[simp] theorem zipP_fl {xs ys : List D} {Q : Src → Prop} : zipP (.fl xs) (.fl ys) S Q = Q (.ds ((xs.zip ys).map fun p => .tup [p.1, p.2])) := rfl
@[simp] theorem zipP_ft {xs ys : List D} {Q : Src → Prop} : zipP (.fl xs) (.tup ys) S Q = Q (.ds ((xs.zip ys).map fun p => .tup [p.1, p.2])) := rfl
@[simp ↓] theorem w_zip2 : WR (evi C G (.zip2 a b) ρ S) Q' E = WR (ev C G a ρ S) (fun x S1 => WR (ev C G b ρ S1) (fun y S2 => zipP x y S2 fun s => Q' s S2) E) E := by
  show WR (R.bind _ fun x S1 => R.bind _ _) Q' E = _
  simp only [wp_bind]
  congr 1
  funext x S1
  congr 1
  funext y S2
  cases x with
  | loc n =>
    cases y with
    | loc k =>
      show WR (match lstAt S2 n, lstAt S2 k with
      | some _, some _ => .ok (.zip n k) S2
      | _, _ => .bad) Q' E = _
      rw [zipP_loc]
      cases lstAt S2 n <;> cases lstAt S2 k <;> simp
    | fl ys =>
      show WR (match lstAt S2 n with
      | some _ => .ok (.zipF n ys) S2
      | none => .bad) Q' E = _
      rw [zipP_lf]
      cases lstAt S2 n <;> simp
    | _ => rfl
  | tup xs => cases y <;> rfl
  | fl xs => cases y <;> rfl
  | _ => rfl
def enumP (x : D) (S : Sto) (Q : Src → Prop) : Prop := match x with
  | .loc n => (lstAt S n).isSome = true ∧ Q (.enum n)
  | .fl ds => Q (.ds (enumL 0 ds))
  | _ => False
@[simp] theorem enumP_loc {n : Nat} {Q : Src → Prop} : enumP (.loc n) S Q = ((lstAt S n).isSome = true ∧ Q (.enum n)) := rfl
@[simp] theorem enumP_fl {ds : List D} {Q : Src → Prop} : enumP (.fl ds) S Q = Q (.ds (enumL 0 ds)) := rfl
@[simp ↓] theorem w_enum : WR (evi C G (.enum a) ρ S) Q' E = WR (ev C G a ρ S) (fun x S1 => enumP x S1 fun s => Q' s S1) E := by
  show WR (R.bind _ fun x S1 => _) Q' E = _
  rw [wp_bind]
  congr 1
  funext x S1
  cases x with
  | loc n =>
    show WR (match lstAt S1 n with
      | some _ => .ok (.enum n) S1
      | none => .bad) Q' E = _
    rw [enumP_loc]
    cases lstAt S1 n <;> simp
  | _ => rfl
end
section
variable {S : Sto} {Q : D → Sto → Prop} {E : Nat → List D → Sto → Prop} {i j : Int}
@[simp ↓] theorem b_addI : binD .Add (.int i) (.int j) S = .ok (.int (i + j)) S := rfl
@[simp ↓] theorem b_subI : binD .Sub (.int i) (.int j) S = .ok (.int (i - j)) S := rfl
@[simp ↓] theorem b_mulI : WR (binD .Mult (.int i) (.int j) S) Q E = (mulOk i j = true ∧ Q (.int (i * j)) S) := by show WR (if _ then _ else .bad) Q E = _; rw [if_bad]; rfl
@[simp ↓] theorem b_divI : WR (binD .FloorDiv (.int i) (.int j) S) Q E = (divOk j = true ∧ Q (.int (i / j)) S) := by show WR (if _ then _ else .bad) Q E = _; rw [if_bad]; rfl
@[simp ↓] theorem b_modI : WR (binD .Mod (.int i) (.int j) S) Q E = (0 < j ∧ Q (.int (i % j)) S) := by show WR (if _ then _ else .bad) Q E = _; rw [if_bad]; simp
@[simp ↓] theorem b_powI : WR (binD .Pow (.int i) (.int j) S) Q E = (powOk i j = true ∧ Q (.int (i ^ j.toNat)) S) := by show WR (if _ then _ else .bad) Q E = _; rw [if_bad]; rfl
@[simp ↓] theorem b_addS {x y : Str} : WR (binD .Add (.str x) (.str y) S) Q E = (x.length + y.length ≤ sizeLine ∧ Q (.str (x ++ y)) S) := by show WR (if _ then _ else .bad) Q E = _; rw [if_bad]; rfl
@[simp ↓] theorem b_addT {x y : List D} : WR (binD .Add (.tup x) (.tup y) S) Q E = (x.length + y.length ≤ sizeLine ∧ Q (.tup (x ++ y)) S) := by show WR (if _ then _ else .bad) Q E = _; rw [if_bad]; rfl
def catP (o p : Option (List D)) (f : List D → Prop) : Prop := match o, p with
  | some a, some b => a.length + b.length ≤ sizeLine ∧ f (a ++ b)
  | _, _ => False
@[simp] theorem catP_some {a b : List D} {f : List D → Prop} : catP (some a) (some b) f = (a.length + b.length ≤ sizeLine ∧ f (a ++ b)) := rfl
theorem w_cat {o p : Option (List D)} : WR (catD o p S) Q E = catP o p fun ds => Q (.loc S.length) (S ++ [.lst ds]) := by
  cases o with
  | none => cases p <;> rfl
  | some a =>
    cases p with
    | none => rfl
    | some b => show WR (if _ then _ else .bad) Q E = _; rw [if_bad]; rfl
@[simp ↓] theorem b_catF {a b : List D} : WR (binD .Add (.fl a) (.fl b) S) Q E = (a.length + b.length ≤ sizeLine ∧ Q (.loc S.length) (S ++ [.lst (a ++ b)])) := w_cat (o := some a) (p := some b)
@[simp ↓] theorem b_catL {n : Nat} {b : D} : WR (binD .Add (.loc n) b S) Q E = catP (lstM S (.loc n)) (lstM S b) fun ds => Q (.loc S.length) (S ++ [.lst ds]) := by
  cases b <;> exact w_cat
@[simp ↓] theorem b_catR {n : Nat} {a : List D} : WR (binD .Add (.fl a) (.loc n) S) Q E = catP (some a) (lstM S (.loc n)) fun ds => Q (.loc S.length) (S ++ [.lst ds]) := w_cat (o := some a)
def repP' (o : Option (List D)) (k : Int) (f : List D → Prop) : Prop := match o with
  | some a => (decide (-(2 ^ 63) ≤ k) && decide (k < 2 ^ 63) && decide (a.length * k.toNat ≤ sizeLine)) = true ∧ f (List.replicate k.toNat a).flatten
  | none => False
@[simp] theorem repP'_some {a : List D} {k : Int} {f : List D → Prop} : repP' (some a) k f = ((decide (-(2 ^ 63) ≤ k) && decide (k < 2 ^ 63) && decide (a.length * k.toNat ≤ sizeLine)) = true ∧ f (List.replicate k.toNat a).flatten) := rfl
@[simp ↓] theorem b_repL {n : Nat} {k : Int} : WR (binD .Mult (.loc n) (.int k) S) Q E = repP' (lstW S (.loc n)) k fun ds => Q (.loc S.length) (S ++ [.lst ds]) := by
  show WR (repL (lstW S (.loc n)) k S) Q E = _
  cases lstW S (.loc n) with
  | none => rfl
  | some a => show WR (if _ then _ else .bad) Q E = _; rw [if_bad]; rfl
@[simp] theorem lstM_fl {ds : List D} : lstM S (.fl ds) = some ds := rfl
@[simp] theorem lstD_fl {ds : List D} : lstD S (.fl ds) = some ds := rfl
@[simp] theorem lstD_loc {n : Nat} : lstD S (.loc n) = lstAt S n := rfl
@[simp] theorem dicD_fd {ks : List Key} {ds : List D} : dicD S (.fd ks ds) = some (ks.zip ds) := rfl
@[simp] theorem dicD_loc {n : Nat} : dicD S (.loc n) = dicAt S n := rfl
@[simp] theorem t_fl {ds : List D} : truth (.fl ds) S = some (!ds.isEmpty) := rfl
@[simp] theorem t_bl {k : Bool} : truth (.bl k) S = some k := rfl
@[simp] theorem t_int : truth (.int i) S = some (i != 0) := rfl
@[simp] theorem t_tup {ds : List D} : truth (.tup ds) S = some (!ds.isEmpty) := rfl
@[simp] theorem t_non : truth .non S = some false := rfl
@[simp] theorem c_eqI : cmpD .Eq (.int i) (.int j) S = some (i == j) := rfl
@[simp] theorem c_eqS {x y : Str} : cmpD .Eq (.str x) (.str y) S = some (x == y) := rfl
@[simp] theorem c_neI : cmpD .NotEq (.int i) (.int j) S = some (!(i == j)) := rfl
@[simp] theorem c_neS {x y : Str} : cmpD .NotEq (.str x) (.str y) S = some (!(x == y)) := rfl
@[simp] theorem c_lt : cmpD .Lt (.int i) (.int j) S = some (decide (i < j)) := rfl
@[simp] theorem c_le : cmpD .LtE (.int i) (.int j) S = some (decide (i ≤ j)) := rfl
@[simp] theorem c_gt : cmpD .Gt (.int i) (.int j) S = some (decide (j < i)) := rfl
@[simp] theorem c_ge : cmpD .GtE (.int i) (.int j) S = some (decide (j ≤ i)) := rfl
@[simp] theorem c_isN {x : D} : cmpD .Is x .non S = some (isNon x) := rfl
@[simp] theorem c_notN {x : D} : cmpD .IsNot x .non S = some (!isNon x) := rfl
@[simp] theorem c_inT {x : D} {ds : List D} : cmpD .In x (.tup ds) S = inSeq x ds := rfl
@[simp] theorem c_ninT {x : D} {ds : List D} : cmpD .NotIn x (.tup ds) S = (inSeq x ds).map (!·) := rfl
@[simp] theorem l_fl {ds : List D} : lenD (.fl ds) S = some ds.length := rfl
@[simp] theorem x_fl {ds : List D} : ixD (.fl ds) (.int i) S = atI ds i := rfl
@[simp] theorem x_fd {ks : List Key} {ds : List D} {y : D} : ixD (.fd ks ds) y S = (kD y).bind fun k => valA (ks.zip ds) k := rfl
@[simp] theorem so_fl {ds : List D} : srcOf (.fl ds) S = some (.ds ds) := rfl
@[simp ↓] theorem sl_flW {ds : List D} {l h : Option Int} : slD (.fl ds) l h S = mk (.lst (cut ds l h)) S := rfl
@[simp ↓] theorem rev_flW {ds : List D} : revD (.fl ds) S = mk (.lst ds.reverse) S := rfl
@[simp ↓] theorem rev_tupW {ds : List D} : revD (.tup ds) S = .ok (.tup ds.reverse) S := rfl
@[simp] theorem l_tup {ds : List D} : lenD (.tup ds) S = some ds.length := rfl
@[simp] theorem l_loc {n : Nat} : lenD (.loc n) S = lenL (lstAt S n) (dicAt S n) (dnAt S n) := rfl
@[simp] theorem lenL_some {ds : List D} {o : Option (List (Key × D))} {q : Option (List (NestedKey × D))} : lenL (some ds) o q = some ds.length := rfl
@[simp] theorem lenL_none {kvs : List (Key × D)} {q : Option (List (NestedKey × D))} : lenL none (some kvs) q = some kvs.length := rfl
@[simp] theorem lenL_dn {kvs : List (NestedKey × D)} : lenL none none (some kvs) = some kvs.length := rfl
@[simp] theorem x_tup {ds : List D} : ixD (.tup ds) (.int i) S = atI ds i := rfl
@[simp] theorem x_loc {n : Nat} : ixD (.loc n) (.int i) S = ixL (lstAt S n) (dicAt S n) (dnAt S n) (.int i) := rfl
@[simp] theorem x_locS {n : Nat} {z : Str} : ixD (.loc n) (.str z) S = ixL (lstAt S n) (dicAt S n) (dnAt S n) (.str z) := rfl
@[simp] theorem x_locT {n : Nat} {z : List D} : ixD (.loc n) (.tup z) S = ixL (lstAt S n) (dicAt S n) (dnAt S n) (.tup z) := rfl
@[simp] theorem ixL_some {ds : List D} {o : Option (List (Key × D))} {q : Option (List (NestedKey × D))} : ixL (some ds) o q (.int i) = atI ds i := rfl
@[simp] theorem ixL_none {kvs : List (Key × D)} {q : Option (List (NestedKey × D))} {y : D} : ixL none (some kvs) q y = (kD y).bind fun k => valA kvs k := rfl
@[simp] theorem ixL_dn {kvs : List (NestedKey × D)} {y : D} : ixL none none (some kvs) y = (kT y).bind fun k => valA kvs k := rfl
@[simp] theorem x_fm {ks : List NestedKey} {ds : List D} {y : D} : ixD (.fm ks ds) y S = (kT y).bind fun k => valA (ks.zip ds) k := rfl
@[simp ↓] theorem w_dnn {C : CallSem} {G : Nat → Option D} {ρ : Env} : WR (ev C G .dnn ρ S) Q E = Q (.loc S.length) (S ++ [.dn []]) := rfl
@[simp ↓] theorem w_dnew {C : CallSem} {G : Nat → Option D} {ρ : Env} : WR (ev C G .dnew ρ S) Q E = Q (.loc S.length) (S ++ [.dic []]) := rfl
@[simp ↓] theorem bi_lenW {x : D} : WR (biD .len [x] S) Q E = optP (lenD x S) fun n => Q (.int n) S := by show WR (R.opt _ S) Q E = _; rw [w_opt]; cases lenD x S <;> rfl
@[simp ↓] theorem bi_isxW {c : Nat} {ps : List D} {t : D} : WR (biD .isx [.exn c ps, t] S) Q E = optP (isX c t) fun b => Q (.bl b) S := by show WR (R.opt _ S) Q E = _; rw [w_opt, optP_map]
@[simp] theorem isX_cls {c k : Nat} : isX c (.cls k) = some (subX c k) := rfl
@[simp] theorem isX_val {c : Nat} : isX c (.ty "ValueError") = some true := rfl
@[simp] theorem isX1_cls {c k : Nat} : isX1 c (.cls k) = some (subX c k) := rfl
@[simp] theorem isX_tup {c : Nat} {ts : List D} : isX c (.tup ts) = isXL c ts := rfl
@[simp] theorem isXL_nil {c : Nat} : isXL c [] = some false := rfl
@[simp] theorem isXL_cons {c : Nat} {t : D} {ts : List D} : isXL c (t :: ts) = (isX1 c t).bind fun b => (isXL c ts).map fun e => b || e := rfl
@[simp ↓] theorem bi_strI : WR (biD .str [.int i] S) Q E = (i.natAbs.log2 < 1900 ∧ Q (.str (toString i)) S) := by
  show WR (if decide (i.natAbs.log2 < 1900) then .ok (.str (toString i)) S else .bad) Q E = _
  by_cases h : i.natAbs.log2 < 1900 <;> simp [h, WR]
@[simp ↓] theorem bi_isW {x t : D} : WR (biD .isinst [x, t] S) Q E = optP (isinst x t S) fun b => Q (.bl b) S := by show WR (R.opt _ S) Q E = _; rw [w_opt, optP_map]
@[simp ↓] theorem bi_absW : biD .abs [.int i] S = .ok (.int (if i < 0 then -i else i)) S := rfl
@[simp ↓] theorem bi_maxW : biD .max [.int i, .int j] S = .ok (.int (if j > i then j else i)) S := rfl
@[simp ↓] theorem bi_minW : biD .min [.int i, .int j] S = .ok (.int (if j < i then j else i)) S := rfl
@[simp ↓] theorem bi_intI : biD .int [.int i] S = .ok (.int i) S := rfl
@[simp ↓] theorem bi_intB {k : Bool} : biD .int [.bl k] S = .ok (.int (if k then 1 else 0)) S := rfl
@[simp ↓] theorem bi_sumW {x : D} : WR (biD .sum [x] S) Q E = optP ((lstD S x).bind intsOf) fun ns => Q (.int ns.sum) S := by show WR (R.opt _ S) Q E = _; rw [w_opt, optP_map]
@[simp ↓] theorem bi_sortedW {x : D} : WR (biD .sorted [x] S) Q E = optP ((lstD S x).bind intsOf) fun ns => Q (.loc S.length) (S ++ [.lst ((isort ns).map D.int)]) := by
  show WR (match (lstD S x).bind intsOf with
    | some ns => mk (.lst ((isort ns).map D.int)) S
    | none => .bad) Q E = _
  cases (lstD S x).bind intsOf <;> rfl
@[simp ↓] theorem bi_sortdW {x : D} : WR (biD .sortd [x] S) Q E = optP ((dicD S x).bind keysI) fun ns => Q (.loc S.length) (S ++ [.lst ((isort ns).map D.int)]) := by
  show WR (match (dicD S x).bind keysI with
    | some ns => mk (.lst ((isort ns).map D.int)) S
    | none => .bad) Q E = _
  cases (dicD S x).bind keysI <;> rfl
@[simp ↓] theorem bi_listnW {x : D} : WR (biD .listn [x] S) Q E = optP (dnD S x) fun kvs => Q (.loc S.length) (S ++ [.lst (kvs.map fun kv => nD kv.1)]) := by
  show WR (match dnD S x with
    | some kvs => mk (.lst (kvs.map fun kv => nD kv.1)) S
    | none => .bad) Q E = _
  cases dnD S x <;> rfl
@[simp ↓] theorem bi_allW {x : D} : WR (biD .all [x] S) Q E = optP ((lstD S x).bind blsOf) fun ns => Q (.bl (ns.all id)) S := by show WR (R.opt _ S) Q E = _; rw [w_opt, optP_map]
@[simp ↓] theorem bi_anyW {x : D} : WR (biD .any [x] S) Q E = optP ((lstD S x).bind blsOf) fun ns => Q (.bl (ns.any id)) S := by show WR (R.opt _ S) Q E = _; rw [w_opt, optP_map]
@[simp ↓] theorem bi_reprW {x : D} : WR (biD .repr [x] S) Q E = optP (repD x S) fun z => Q z S := by show WR (R.opt _ S) Q E = _; rw [w_opt]
@[simp ↓] theorem bi_tupW {n : Nat} : WR (biD .tuple [.loc n] S) Q E = optP (lstAt S n) fun ds => Q (.tup ds) S := by
  show WR (match lstAt S n with
    | some ds => .ok (.tup ds) S
    | none => .bad) Q E = _
  cases lstAt S n <;> rfl
@[simp ↓] theorem bi_tupF {ds : List D} : biD .tuple [.fl ds] S = .ok (.tup ds) S := rfl
@[simp ↓] theorem bi_tupT {ds : List D} : biD .tuple [.tup ds] S = .ok (.tup ds) S := rfl
@[simp ↓] theorem bi_lstW {n : Nat} : WR (biD .list [.loc n] S) Q E = optP (lstAt S n) fun ds => Q (.loc S.length) (S ++ [.lst ds]) := by
  show WR (match lstAt S n with
    | some ds => mk (.lst ds) S
    | none => .bad) Q E = _
  cases lstAt S n <;> rfl
@[simp ↓] theorem bi_lstF {ds : List D} : WR (biD .list [.fl ds] S) Q E = Q (.loc S.length) (S ++ [.lst ds]) := rfl
@[simp ↓] theorem bi_lstT {ds : List D} : WR (biD .list [.tup ds] S) Q E = Q (.loc S.length) (S ++ [.lst ds]) := rfl
def mostP (o : Option (List Int)) (f : Int → List Int → Prop) : Prop := match o with
  | some (x :: r) => f x r
  | _ => False
@[simp] theorem mostP_some {x : Int} {r : List Int} {f : Int → List Int → Prop} : mostP (some (x :: r)) f = f x r := rfl
@[simp ↓] theorem bi_maxF {ds : List D} : WR (biD .max [.fl ds] S) Q E = mostP (intsOf ds) fun x r => Q (.int (mostI x r)) S := by
  show WR (match intsOf ds with
    | some (x :: r) => .ok (.int (mostI x r)) S
    | _ => .bad) Q E = _
  cases intsOf ds with
  | none => rfl
  | some l => cases l <;> rfl
@[simp ↓] theorem bi_minF {ds : List D} : WR (biD .min [.fl ds] S) Q E = mostP (intsOf ds) fun x r => Q (.int (leastI x r)) S := by
  show WR (match intsOf ds with
    | some (x :: r) => .ok (.int (leastI x r)) S
    | _ => .bad) Q E = _
  cases intsOf ds with
  | none => rfl
  | some l => cases l <;> rfl
@[simp ↓] theorem bi_maxT {ds : List D} : WR (biD .max [.tup ds] S) Q E = mostP (intsOf ds) fun x r => Q (.int (mostI x r)) S := by
  show WR (match intsOf ds with
    | some (x :: r) => .ok (.int (mostI x r)) S
    | _ => .bad) Q E = _
  cases intsOf ds with
  | none => rfl
  | some l => cases l <;> rfl
@[simp ↓] theorem bi_minT {ds : List D} : WR (biD .min [.tup ds] S) Q E = mostP (intsOf ds) fun x r => Q (.int (leastI x r)) S := by
  show WR (match intsOf ds with
    | some (x :: r) => .ok (.int (leastI x r)) S
    | _ => .bad) Q E = _
  cases intsOf ds with
  | none => rfl
  | some l => cases l <;> rfl
@[simp] theorem intsOf_nil : intsOf [] = some [] := rfl
@[simp] theorem intsOf_cons {i : Int} {r : List D} : intsOf (.int i :: r) = (intsOf r).map (i :: ·) := rfl
@[simp] theorem leastI_nil {i : Int} : leastI i [] = i := rfl
@[simp] theorem leastI_cons {i j : Int} {r : List Int} : leastI i (j :: r) = leastI (if j < i then j else i) r := rfl
@[simp] theorem mostI_nil {i : Int} : mostI i [] = i := rfl
@[simp] theorem mostI_cons {i j : Int} {r : List Int} : mostI i (j :: r) = mostI (if i < j then j else i) r := rfl
@[simp ↓] theorem sl_tupW {ds : List D} {l h : Option Int} : slD (.tup ds) l h S = .ok (.tup (cut ds l h)) S := rfl
@[simp] theorem so_tup {ds : List D} : srcOf (.tup ds) S = some (.ds ds) := rfl
@[simp] theorem so_str {z : Str} : srcOf (.str z) S = some (.ds (z.cps.toList.map fun c => .str ⟨#[c]⟩)) := rfl
@[simp] theorem so_loc {n : Nat} : srcOf (.loc n) S = (lstAt S n).map fun _ => .lst n := rfl
end
@[simp] theorem at0 {α : Type} {x : α} {r : List α} : atI (x :: r) 0 = some x := atI_nat (j := 0) rfl
@[simp] theorem at1 {α : Type} {x y : α} {r : List α} : atI (x :: y :: r) 1 = some y := atI_nat (j := 1) rfl
@[simp] theorem at2 {α : Type} {x y z : α} {r : List α} : atI (x :: y :: z :: r) 2 = some z := atI_nat (j := 2) rfl
@[simp] theorem at3 {α : Type} {x y z u : α} {r : List α} : atI (x :: y :: z :: u :: r) 3 = some u := atI_nat (j := 3) rfl
section
variable {n : Nat} {C : CallSem} {G : Nat → Option D} {ρ : Env} {S : Sto} {p : Po} {a b c : Xp} {A B : Sx}
theorem ofR_ws {α : Type} {r : R α} {f : α → Sto → Rs} : Ws (ofR r ρ f) p = WR r (fun x S1 => Ws (f x S1) p) (fun c q S1 => p.ex c q ρ S1) := by cases r <;> rfl
@[simp ↓] theorem s_nx : Ws (.nx ρ S) p = p.nx ρ S := rfl
@[simp ↓] theorem s_rt {d : D} : Ws (.rt d S) p = p.rt d S := rfl
@[simp ↓] theorem s_bad : Ws .bad p = False := rfl
@[simp ↓] theorem s_pass : Ws (run n C G .pass ρ S) p = p.nx ρ S := rfl
@[simp ↓] theorem s_brk : Ws (run n C G .brk ρ S) p = p.bk ρ S := rfl
@[simp ↓] theorem s_cont : Ws (run n C G .cont ρ S) p = p.ct ρ S := rfl
@[simp ↓] theorem s_nil : Ws (run n C G .nil ρ S) p = p.nx ρ S := rfl
@[simp ↓] theorem s_cons : Ws (run n C G (.cons A B) ρ S) p = Ws (run n C G A ρ S) { p with nx := fun ρ1 S1 => Ws (run n C G B ρ1 S1) p } := by
  show Ws (match run n C G A ρ S with
    | .nx ρ1 S1 => run n C G B ρ1 S1
    | r => r) p = _
  cases run n C G A ρ S <;> rfl
@[simp ↓] theorem s_ex : Ws (run n C G (.ex a) ρ S) p = WR (ev C G a ρ S) (fun _ S1 => p.nx ρ S1) (fun c q S1 => p.ex c q ρ S1) := by
  show Ws (ofR _ _ _) p = _
  rw [ofR_ws]
  rfl
@[simp ↓] theorem s_ret : Ws (run n C G (.ret a) ρ S) p = WR (ev C G a ρ S) (fun d S1 => p.rt d S1) (fun c q S1 => p.ex c q ρ S1) := by
  show Ws (ofR _ _ _) p = _
  rw [ofR_ws]
  rfl
@[simp ↓] theorem s_asgV {i : Nat} : Ws (run n C G (.asg (.var i) a) ρ S) p = WR (ev C G a ρ S) (fun d S1 => p.nx (ρ.set i (some d)) S1) (fun c q S1 => p.ex c q ρ S1) := by
  show Ws (ofR _ _ _) p = _
  rw [ofR_ws]
  rfl
@[simp ↓] theorem s_asgT {t : Xp} : Ws (run n C G (.asg (.tup t) a) ρ S) p = WR (ev C G a ρ S) (fun d S1 => optP (bindT (.tup t) d ρ) fun ρ1 => p.nx ρ1 S1) (fun c q S1 => p.ex c q ρ S1) := by
  show Ws (ofR _ _ _) p = _
  rw [ofR_ws]
  congr 1
  funext d S1
  show Ws (match bindT (.tup t) d ρ with
    | some ρ1 => .nx ρ1 S1
    | none => .bad) p = _
  cases bindT (.tup t) d ρ <;> rfl
@[simp ↓] theorem s_asgU {t : Xp} : Ws (run n C G (.asg (.lst t) a) ρ S) p = WR (ev C G a ρ S) (fun d S1 => optP (bindT (.lst t) d ρ) fun ρ1 => p.nx ρ1 S1) (fun c q S1 => p.ex c q ρ S1) := by
  show Ws (ofR _ _ _) p = _
  rw [ofR_ws]
  congr 1
  funext d S1
  show Ws (match bindT (.lst t) d ρ with
    | some ρ1 => .nx ρ1 S1
    | none => .bad) p = _
  cases bindT (.lst t) d ρ <;> rfl
@[simp ↓] theorem s_asgI : Ws (run n C G (.asg (.ix a b) c) ρ S) p = WR (ev C G c ρ S) (fun d S1 => WR (ev C G a ρ S1) (fun x S2 => WR (ev C G b ρ S2) (fun y S3 => optP (setIx x y d S3) fun S4 => p.nx ρ S4) (fun c q S1 => p.ex c q ρ S1)) (fun c q S1 => p.ex c q ρ S1)) (fun c q S1 => p.ex c q ρ S1) := by
  show Ws (ofR _ _ _) p = _
  rw [ofR_ws]
  congr 1
  funext d S1
  show Ws (ofR _ _ fun x S1 => ofR _ _ _) p = _
  rw [ofR_ws]
  congr 1
  funext x S2
  rw [ofR_ws]
  congr 1
  funext y S3
  cases setIx x y d S3 <;> rfl
@[simp ↓] theorem s_asgS {l h : Xp} : Ws (run n C G (.asg (.sl a l h) c) ρ S) p = WR (ev C G c ρ S) (fun d S1 => WR (ev C G a ρ S1) (fun x S2 => WR (evp C G l ρ S2) (fun y S3 => WR (evp C G h ρ S3) (fun z S4 => optP (setSl x y z d S4) fun S5 => p.nx ρ S5) (fun c q S1 => p.ex c q ρ S1)) (fun c q S1 => p.ex c q ρ S1)) (fun c q S1 => p.ex c q ρ S1)) (fun c q S1 => p.ex c q ρ S1) := by
  show Ws (ofR _ _ _) p = _
  rw [ofR_ws]
  congr 1
  funext d S1
  show Ws (ofR _ _ fun x S1 => ofR _ _ fun y S2 => ofR _ _ _) p = _
  rw [ofR_ws]
  congr 1
  funext x S2
  rw [ofR_ws]
  congr 1
  funext y S3
  rw [ofR_ws]
  congr 1
  funext z S4
  cases setSl x y z d S4 <;> rfl
@[simp] theorem parE_nil {ρ : Env} : parE [] [] ρ = some ρ := rfl
@[simp] theorem parE_cons {j : Nat} {js : List Nat} {d : D} {ds : List D} {ρ : Env} : parE (j :: js) (d :: ds) ρ = parE js ds (ρ.set j (some d)) := rfl
@[simp ↓] theorem s_par {js : List Nat} : Ws (run n C G (.par js a) ρ S) p = WR (evs C G a ρ S) (fun ds S1 => optP (parE js ds ρ) fun ρ1 => p.nx ρ1 S1) (fun c q S1 => p.ex c q ρ S1) := by
  show Ws (ofR _ _ _) p = _
  rw [ofR_ws]
  congr 1
  funext ds S1
  cases parE js ds ρ <;> rfl
@[simp ↓] theorem s_aug {i : Nat} {op : Operator} : Ws (run n C G (.aug i op a) ρ S) p = optP (ρ[i]?.bind id) fun x => WR (ev C G a ρ S) (fun y S1 => WR (augD op x y S1) (fun z S2 => p.nx (ρ.set i (some z)) S2) (fun c q S1 => p.ex c q ρ S1)) (fun c q S1 => p.ex c q ρ S1) := by
  show Ws (match ρ[i]?.bind id with
    | some x => ofR (ev C G a ρ S) ρ fun y S1 => ofR (augD op x y S1) ρ fun z S2 => .nx (ρ.set i (some z)) S2
    | none => .bad) p = _
  cases ρ[i]?.bind id with
  | none => rfl
  | some x =>
    show Ws (ofR _ _ fun x S1 => ofR _ _ _) p = _
    rw [ofR_ws]
    simp only [ofR_ws]
    rfl
@[simp ↓] theorem s_augx {op : Operator} : Ws (run n C G (.augx a b op c) ρ S) p = WR (ev C G a ρ S) (fun x S1 => WR (ev C G b ρ S1) (fun y S2 => optP (dixD x y S2) fun old => WR (ev C G c ρ S2) (fun z S3 => WR (augD op old z S3) (fun r S4 => optP (setIx x y r S4) fun S5 => p.nx ρ S5) (fun c q S1 => p.ex c q ρ S1)) (fun c q S1 => p.ex c q ρ S1)) (fun c q S1 => p.ex c q ρ S1)) (fun c q S1 => p.ex c q ρ S1) := by
  show Ws (ofR _ _ fun x S1 => ofR _ _ fun y S2 => _) p = _
  rw [ofR_ws]
  congr 1
  funext x S1
  rw [ofR_ws]
  congr 1
  funext y S2
  cases dixD x y S2 with
  | none => rfl
  | some old =>
    show Ws (ofR _ _ fun z S3 => ofR _ _ _) p = _
    rw [ofR_ws]
    show _ = WR _ _ _
    congr 1
    funext z S3
    rw [ofR_ws]
    congr 1
    funext r S4
    cases setIx x y r S4 <;> rfl
@[simp ↓] theorem s_iff : Ws (run n C G (.iff c A B) ρ S) p = WR (ev C G c ρ S) (fun x S1 => selO (truth x S1) (Ws (run n C G A ρ S1) p) (Ws (run n C G B ρ S1) p)) (fun c q S1 => p.ex c q ρ S1) := by
  show Ws (ofR (asT _) _ _) p = _
  rw [ofR_ws, w_asT]
  congr 1
  funext x S1
  cases truth x S1 with
  | none => rfl
  | some t => cases t <;> rfl
@[simp ↓] theorem s_rse {k : Nat} : Ws (run n C G (.rse k a) ρ S) p = WR (evs C G a ρ S) (fun q S1 => p.ex k q ρ S1) (fun c q S1 => p.ex c q ρ S1) := by
  show Ws (ofR _ _ _) p = _
  rw [ofR_ws]
  rfl
@[simp ↓] theorem s_for {t it : Xp} : Ws (run n C G (.for_ t it A) ρ S) p = WR (evi C G it ρ S) (fun src S1 => Ws (forl src t (fun ρ S => run n C G A ρ S) (src.size S1 + 1) 0 ρ S1) p) (fun c q S1 => p.ex c q ρ S1) := by
  show Ws (ofR _ _ _) p = _
  rw [ofR_ws]
@[simp ↓] theorem s_whl : Ws (run n C G (.whl c A) ρ S) p = Ws (whl (fun ρ S => asT (ev C G c ρ S)) (fun ρ S => run n C G A ρ S) n ρ S) p := rfl
@[simp ↓] theorem s_tryA {cs : List (Nat × Bool)} {o : Option Nat} : Ws (run n C G (.tryA A o cs B) ρ S) p = Ws (run n C G A ρ S) { p with ex := fun c q ρ1 S1 => selO (cs.lookup c) (Ws (run n C G B (asE o (.exn c q) ρ1) S1) { nx := fun ρ S => p.nx (unO o ρ) S, bk := fun ρ S => p.bk (unO o ρ) S, ct := fun ρ S => p.ct (unO o ρ) S, rt := p.rt, ex := fun _ _ _ _ => False }) (p.ex c q ρ1 S1) } := by
  show Ws (match run n C G A ρ S with
    | .exc c' p ρ1 S1 => match cs.lookup c' with
      | some true => suiteR o (run n C G B (asE o (.exn c' p) ρ1) S1)
      | some false => .exc c' p ρ1 S1
      | none => .bad
    | r => r) p = _
  cases run n C G A ρ S with
  | exc c' q ρ1 S1 =>
    show Ws (match cs.lookup c' with
      | some true => suiteR o (run n C G B (asE o (.exn c' q) ρ1) S1)
      | some false => .exc c' q ρ1 S1
      | none => .bad) p = selO (cs.lookup c') _ (p.ex c' q ρ1 S1)
    cases cs.lookup c' with
    | none => rfl
    | some t =>
      cases t with
      | false => rfl
      | true =>
        show Ws (suiteR o (run n C G B (asE o (.exn c' q) ρ1) S1)) p = _
        cases run n C G B (asE o (.exn c' q) ρ1) S1 <;> rfl
  | _ => rfl
@[simp] theorem asE_some {i : Nat} {d : D} {ρ : Env} : asE (some i) d ρ = ρ.set i (some d) := rfl
@[simp] theorem asE_none {d : D} {ρ : Env} : asE none d ρ = ρ := rfl
@[simp] theorem unO_some {i : Nat} {ρ : Env} : unO (some i) ρ = ρ.set i none := rfl
@[simp] theorem unO_none {ρ : Env} : unO none ρ = ρ := rfl
@[simp ↓] theorem s_try {cs : List (Nat × Bool)} : Ws (run n C G (.tryS A cs B) ρ S) p = Ws (run n C G A ρ S) { p with ex := fun c q ρ1 S1 => selO (cs.lookup c) (Ws (run n C G B ρ1 S1) p) (p.ex c q ρ1 S1) } := by
  show Ws (match run n C G A ρ S with
    | .exc c' q ρ1 S1 => match cs.lookup c' with
      | some true => run n C G B ρ1 S1
      | some false => .exc c' q ρ1 S1
      | none => .bad
    | r => r) p = _
  cases run n C G A ρ S with
  | exc c' q ρ1 S1 =>
    show Ws (match cs.lookup c' with
      | some true => run n C G B ρ1 S1
      | some false => .exc c' q ρ1 S1
      | none => .bad) p = selO (cs.lookup c') (Ws (run n C G B ρ1 S1) p) (p.ex c' q ρ1 S1)
    cases cs.lookup c' with
    | none => rfl
    | some t => cases t <;> rfl
  | _ => rfl
theorem w_end {r : Rs} {Q : D → Sto → Prop} {E : Nat → List D → Sto → Prop} : WR (endR r) Q E = Ws r { nx := fun _ S => Q .non S, rt := Q, bk := fun _ _ => False, ct := fun _ _ => False, ex := fun c q _ S => E c q S } := by cases r <;> rfl
@[simp ↓] theorem a_addI {i j : Int} : augD .Add (.int i) (.int j) S = .ok (.int (i + j)) S := rfl
@[simp ↓] theorem a_subI {i j : Int} : augD .Sub (.int i) (.int j) S = .ok (.int (i - j)) S := rfl
end
theorem wp_lcl {src : Src} {tg : Xp} {cond : Env → Sto → R Bool} {elt : Env → Sto → R D} {ρ : Env} {Q : List D → Sto → Prop} {E : Nat → List D → Sto → Prop} (n : Nat) (I : Nat → List D → Sto → Prop)
    (go : ∀ i acc S, i < n → I i acc S → ∃ d ρ1, src.get i S = some (some d) ∧ bindT tg d ρ = some ρ1 ∧ WR (cond ρ1 S) (fun b S1 => if b = true then WR (elt ρ1 S1) (fun y S2 => acc.length < sizeLine ∧ I (i + 1) (acc ++ [y]) S2) Eo else I (i + 1) acc S1) Eo)
    (fin : ∀ acc S, I n acc S → src.get n S = some none ∧ Q acc S) : ∀ (f i : Nat) (acc : List D) (S : Sto), i ≤ n → n < i + f → I i acc S → WR (lcl src tg cond elt ρ f i acc S) Q E
  | 0, i, acc, S, h1, h2, _ => absurd h1 (by omega)
  | f + 1, i, acc, S, h1, h2, h => by
    show WR (match src.get i S with
      | none => .bad
      | some none => .ok acc S
      | some (some d) => match bindT tg d ρ with
        | none => .bad
        | some ρ1 => match cond ρ1 S with
          | .ok true S1 => match elt ρ1 S1 with
            | .ok y S2 => if acc.length < sizeLine then lcl src tg cond elt ρ f (i + 1) (acc ++ [y]) S2 else .bad
            | _ => .bad
          | .ok false S1 => lcl src tg cond elt ρ f (i + 1) acc S1
          | _ => .bad) Q E
    by_cases e : i = n
    · subst e
      obtain ⟨z1, z2⟩ := fin acc S h
      rw [z1]
      exact z2
    · obtain ⟨d, ρ1, z1, z2, z3⟩ := go i acc S (by omega) h
      rw [z1]
      simp only [z2]
      cases q : cond ρ1 S with
      | bad => rw [q] at z3; exact z3.elim
      | exc _ _ _ => rw [q] at z3; exact z3.elim
      | ok b S1 =>
        rw [q] at z3
        cases b with
        | false => exact wp_lcl n I go fin f (i + 1) acc S1 (by omega) (by omega) (by simpa using z3)
        | true =>
          have z4 : WR (elt ρ1 S1) (fun y S2 => acc.length < sizeLine ∧ I (i + 1) (acc ++ [y]) S2) Eo := by simpa using z3
          cases q2 : elt ρ1 S1 with
          | bad => rw [q2] at z4; exact z4.elim
          | exc _ _ _ => rw [q2] at z4; exact z4.elim
          | ok y S2 =>
            rw [q2] at z4
            simp only [q2]
            rw [if_pos z4.1]
            exact wp_lcl n I go fin f (i + 1) (acc ++ [y]) S2 (by omega) (by omega) z4.2
theorem ws_forl {src : Src} {tg : Xp} {b : Env → Sto → Rs} {p : Po} (n : Nat) (I : Nat → Env → Sto → Prop)
    (go : ∀ i ρ S, i < n → I i ρ S → ∃ d ρ1, src.get i S = some (some d) ∧ bindT tg d ρ = some ρ1 ∧ Ws (b ρ1 S) { nx := I (i + 1), ct := I (i + 1), bk := p.nx, rt := p.rt, ex := p.ex })
    (fin : ∀ ρ S, I n ρ S → src.get n S = some none ∧ p.nx ρ S) : ∀ (f i : Nat) (ρ : Env) (S : Sto), i ≤ n → n < i + f → I i ρ S → Ws (forl src tg b f i ρ S) p
  | 0, i, ρ, S, h1, h2, _ => absurd h1 (by omega)
  | f + 1, i, ρ, S, h1, h2, h => by
    show Ws (match src.get i S with
      | none => .bad
      | some none => .nx ρ S
      | some (some d) => match bindT tg d ρ with
        | none => .bad
        | some ρ1 => match b ρ1 S with
          | .nx ρ2 S2 => forl src tg b f (i + 1) ρ2 S2
          | .ct ρ2 S2 => forl src tg b f (i + 1) ρ2 S2
          | .bk ρ2 S2 => .nx ρ2 S2
          | r => r) p
    by_cases e : i = n
    · subst e
      obtain ⟨z1, z2⟩ := fin ρ S h
      rw [z1]
      exact z2
    · obtain ⟨d, ρ1, z1, z2, z3⟩ := go i ρ S (by omega) h
      rw [z1]
      simp only [z2]
      cases q : b ρ1 S with
      | bad => rw [q] at z3; exact z3.elim
      | exc _ _ _ _ => rw [q] at z3; exact z3
      | rt _ _ => rw [q] at z3; exact z3
      | bk _ _ => rw [q] at z3; exact z3
      | nx ρ2 S2 => rw [q] at z3; exact ws_forl n I go fin f (i + 1) ρ2 S2 (by omega) (by omega) z3
      | ct ρ2 S2 => rw [q] at z3; exact ws_forl n I go fin f (i + 1) ρ2 S2 (by omega) (by omega) z3
def Ext (S S' : Sto) : Prop := ∃ J, S' = S ++ J
theorem Ext.refl (S : Sto) : Ext S S := ⟨[], by simp⟩
theorem Ext.trans {S T U : Sto} (h : Ext S T) (k : Ext T U) : Ext S U := by
  obtain ⟨J, rfl⟩ := h
  obtain ⟨L, rfl⟩ := k
  exact ⟨J ++ L, by simp⟩
theorem Ext.push (S : Sto) (so : SO) : Ext S (S ++ [so]) := ⟨[so], rfl⟩
theorem Ext.to {S T : Sto} (h : Ext S T) (so : SO) : Ext S (T ++ [so]) := h.trans (.push T so)
theorem Ext.get {S T : Sto} (h : Ext S T) {n : Nat} {so : SO} (e : S[n]? = some so) : T[n]? = some so := by
  obtain ⟨J, rfl⟩ := h
  rw [List.getElem?_append_left (List.getElem?_eq_some_iff.mp e).1]
  exact e
theorem Ext.lst {S T : Sto} (h : Ext S T) {n : Nat} {ds : List D} (e : lstAt S n = some ds) : lstAt T n = some ds := by
  unfold lstAt at e ⊢
  cases q : S[n]? with
  | none => rw [q] at e; cases e
  | some so => rw [q] at e; rw [h.get q]; exact e
theorem Ext.le {S T : Sto} (h : Ext S T) : S.length ≤ T.length := by
  obtain ⟨J, rfl⟩ := h
  simp
@[simp] theorem get_new {S : Sto} {so : SO} : (S ++ [so])[S.length]? = some so := by simp
@[simp] theorem lst_new {S : Sto} {ds : List D} : lstAt (S ++ [.lst ds]) S.length = some ds := by simp [lstAt]
section
variable {C : CallSem} {G : Nat → Option D} {ρ : Env} {S : Sto} {Q : D → Sto → Prop} {Q' : Src → Sto → Prop} {E : Nat → List D → Sto → Prop} {a b c : Xp} {n : Nat} {p : Po} {A B : Sx}
@[simp ↓] theorem w_dget : WR (ev C G (.dget a b c) ρ S) Q E = WR (ev C G a ρ S) (fun x S1 => optP (dicD S1 x) fun _ => WR (ev C G b ρ S1) (fun y S2 => WR (ev C G c ρ S2) (fun z S3 => optP (dgetD x y z S3) fun r => Q r S3) E) E) E := by
  show WR (R.bind _ fun x S1 => _) Q E = _
  rw [wp_bind]
  congr 1
  funext x S1
  cases dicD S1 x with
  | none => rfl
  | some n =>
    show WR (R.bind _ fun y S2 => R.bind _ _) Q E = _
    simp only [wp_bind, w_opt]
    rfl
@[simp ↓] theorem w_dgetn : WR (ev C G (.dgetn a b c) ρ S) Q E = WR (ev C G a ρ S) (fun x S1 => optP (dnD S1 x) fun _ => WR (ev C G b ρ S1) (fun y S2 => WR (ev C G c ρ S2) (fun z S3 => optP (dgetnD x y z S3) fun r => Q r S3) E) E) E := by
  show WR (R.bind _ fun x S1 => _) Q E = _
  rw [wp_bind]
  congr 1
  funext x S1
  cases dnD S1 x with
  | none => rfl
  | some n =>
    show WR (R.bind _ fun y S2 => R.bind _ _) Q E = _
    simp only [wp_bind, w_opt]
    rfl
@[simp ↓] theorem w_dsetd : WR (ev C G (.dsetd a b c) ρ S) Q E = WR (ev C G a ρ S) (fun x S1 => optP (asDic x S1) fun n => WR (ev C G b ρ S1) (fun y S2 => WR (ev C G c ρ S2) (fun z S3 => WR (dsetdD n y z S3) Q E) E) E) E := by
  show WR (R.bind _ fun x S1 => _) Q E = _
  rw [wp_bind]
  congr 1
  funext x S1
  cases asDic x S1 with
  | none => rfl
  | some n =>
    show WR (R.bind _ fun y S2 => R.bind _ _) Q E = _
    simp only [wp_bind]
    rfl
@[simp ↓] theorem w_lix : WR (ev C G (.lix a b) ρ S) Q E = WR (ev C G a ρ S) (fun x S1 => (lstD S1 x).isSome = true ∧ WR (ev C G b ρ S1) (fun y S2 => optP (lixD x y S2) fun z => Q z S2) E) E := by
  rw [ev, wp_bind]
  congr 1
  funext x S1
  cases h : (lstD S1 x).isSome
  · simp [WR]
  · simp [wp_bind, w_opt]
@[simp ↓] theorem w_prm {f : List D → Sto → R D} {es : Xp} : WR (ev C G (.prm f es) ρ S) Q E = WR (evs C G es ρ S) (fun xs S1 => WR (f xs S1) Q E) E := by
  show WR (R.bind _ _) Q E = _
  rw [wp_bind]
@[simp ↓] theorem w_itp {f : List D → Sto → R Src} {es : Xp} : WR (evi C G (.itp f es) ρ S) Q' E = WR (evs C G es ρ S) (fun xs S1 => WR (f xs S1) Q' E) E := by
  show WR (R.bind _ _) Q' E = _
  rw [wp_bind]
@[simp ↓] theorem w_fld {f : Str} : WR (ev C G (.fld f a) ρ S) Q E = WR (ev C G a ρ S) (fun x S1 => optP (insF S1 x f) fun r => Q r S1) E := by
  show WR (R.bind _ fun x S1 => _) Q E = _
  rw [wp_bind]
  congr 1
  funext x S1
  rw [w_opt]
@[simp ↓] theorem w_meth {m : Str} {c i : Nat} {es : Xp} : WR (ev C G (.meth m c i a es) ρ S) Q E = WR (ev C G a ρ S) (fun x S1 => insM S1 x c m = true ∧ WR (evs C G es ρ S1) (fun xs S2 => WR (C i (x :: xs) S2) Q E) E) E := by
  show WR (R.bind _ fun x S1 => if insM S1 x c m = true then R.bind _ _ else R.bad) Q E = _
  rw [wp_bind]
  congr 1
  funext x S1
  rw [if_bad, wp_bind]
def nonP (r : D) (p : Prop) : Prop := match r with
  | .non => p
  | _ => False
@[simp] theorem nonP_non {p : Prop} : nonP .non p = p := rfl
@[simp ↓] theorem w_mko {c i : Nat} {es : Xp} : WR (ev C G (.mko c i es) ρ S) Q E = WR (evs C G es ρ S) (fun xs S1 => WR (C i (.loc S1.length :: xs) (S1 ++ [.ins c []])) (fun r S2 => nonP r (Q (.loc S1.length) S2)) E) E := by
  show WR (R.bind _ fun xs S1 => R.bind _ fun r S2 => _) Q E = _
  rw [wp_bind]
  congr 1
  funext xs S1
  rw [wp_bind]
  congr 1
  funext r S2
  cases r <;> rfl
@[simp ↓] theorem w_lcd {it tg kx vx cd : Xp} {vs : List Nat} : WR (ev C G (.lcd it tg kx vx cd vs) ρ S) Q E = WR (evi C G it ρ S) (fun src S1 =>
    WR (lcld src tg (fun ρ1 S2 => asT (ev C G cd ρ1 S2)) (fun ρ1 S2 => ev C G kx ρ1 S2) (fun ρ1 S2 => ev C G vx ρ1 S2) (wipeE ρ vs) (src.size S1 + 1) 0 [] S1) (fun kvs S2 => Q (.loc S2.length) (S2 ++ [.dic kvs])) E) E := by
  show WR (R.bind _ fun src S1 => R.bind _ fun kvs S2 => _) Q E = _
  rw [wp_bind]
  congr 1
  funext src S1
  rw [wp_bind]
  rfl
@[simp ↓] theorem s_asgs {ts es : Xp} : Ws (run n C G (.asgs ts es) ρ S) p = WR (evs C G es ρ S) (fun ds S1 => Ws (setTs C G ts ds ρ S1) p) (fun c q S1 => p.ex c q ρ S1) := by
  show Ws (ofR _ _ _) p = _
  rw [ofR_ws]
@[simp ↓] theorem s_setTs_nil : Ws (setTs C G .nil [] ρ S) p = p.nx ρ S := rfl
@[simp ↓] theorem s_setTs_ix {d : D} {ds : List D} : Ws (setTs C G (.cons (.ix a b) c) (d :: ds) ρ S) p = WR (ev C G a ρ S) (fun x S2 => WR (ev C G b ρ S2) (fun y S3 => optP (setIx x y d S3) fun S4 => Ws (setTs C G c ds ρ S4) p) (fun e q S1 => p.ex e q ρ S1)) (fun e q S1 => p.ex e q ρ S1) := by
  have h : setTs C G (.cons (.ix a b) c) (d :: ds) ρ S = CC.ofR (ev C G a ρ S) ρ fun x S1 => CC.ofR (ev C G b ρ S1) ρ fun y S2 => match setIx x y d S2 with
      | some S3 => setTs C G c ds ρ S3
      | none => .bad := by
    show (match setT C G (.ix a b) d ρ S with
      | .nx ρ1 S1 => setTs C G c ds ρ1 S1
      | r => r) = _
    show (match CC.ofR (ev C G a ρ S) ρ fun x S1 => CC.ofR (ev C G b ρ S1) ρ fun y S2 => match setIx x y d S2 with
      | some S3 => Rs.nx ρ S3
      | none => .bad with
      | .nx ρ1 S1 => setTs C G c ds ρ1 S1
      | r => r) = _
    cases ev C G a ρ S with
    | ok x S1 =>
      simp only [ofR_ok]
      cases ev C G b ρ S1 with
      | ok y S2 =>
        simp only [ofR_ok]
        cases setIx x y d S2 <;> rfl
      | exc _ _ _ => rfl
      | bad => rfl
    | exc _ _ _ => rfl
    | bad => rfl
  rw [h, ofR_ws]
  congr 1
  funext x S1
  rw [ofR_ws]
  congr 1
  funext y S2
  cases setIx x y d S2 <;> rfl
@[simp ↓] theorem s_fset {f : Str} : Ws (run n C G (.fset a f b) ρ S) p = WR (ev C G b ρ S) (fun d S1 => WR (ev C G a ρ S1) (fun x S2 => optP (insS S2 x f d) fun S3 => p.nx ρ S3) (fun e q S1 => p.ex e q ρ S1)) (fun e q S1 => p.ex e q ρ S1) := by
  show Ws (ofR _ _ fun d S1 => ofR _ _ fun x S2 => _) p = _
  rw [ofR_ws]
  congr 1
  funext d S1
  rw [ofR_ws]
  congr 1
  funext x S2
  cases insS S2 x f d <;> rfl
@[simp ↓] theorem w_lset : WR (ev C G (.lset a) ρ S) Q E = WR (ev C G a ρ S) (fun x S1 => optP ((lstD S1 x).bind lsetL) fun n => Q (.int n) S1) E := by
  show WR (R.bind _ fun x S1 => _) Q E = _
  rw [wp_bind]
  congr 1
  funext x S1
  show WR (R.opt _ _) Q E = _
  rw [w_opt, optP_map]
@[simp ↓] theorem w_sumv : WR (ev C G (.sumv a) ρ S) Q E = WR (ev C G a ρ S) (fun x S1 => optP (dicD S1 x) fun kvs => optP (intsOf (kvs.map (·.2))) fun ns => Q (.int ns.sum) S1) E := by
  show WR (R.bind _ fun x S1 => _) Q E = _
  rw [wp_bind]
  congr 1
  funext x S1
  cases dicD S1 x with
  | none => rfl
  | some n => show WR (R.opt _ _) Q E = _; rw [w_opt, optP_map]; rfl
def fdP (x : D) (f : List Key → List D → Prop) : Prop := match x with
  | .fd ks ds => f ks ds
  | _ => False
@[simp] theorem fdP_fd {ks : List Key} {ds : List D} {f : List Key → List D → Prop} : fdP (.fd ks ds) f = f ks ds := rfl
@[simp ↓] theorem w_dit : WR (evi C G (.dit a) ρ S) Q' E = WR (ev C G a ρ S) (fun x S1 => fdP x fun ks ds => Q' (.ds ((ks.zip ds).map fun kv => .tup [kDi kv.1, kv.2])) S1) E := by
  show WR (R.bind _ fun x S1 => _) Q' E = _
  rw [wp_bind]
  congr 1
  funext x S1
  cases x <;> rfl
@[simp ↓] theorem w_dks : WR (evi C G (.dks a) ρ S) Q' E = WR (ev C G a ρ S) (fun x S1 => fdP x fun ks ds => Q' (.ds ((ks.zip ds).map fun kv => kDi kv.1)) S1) E := by
  show WR (R.bind _ fun x S1 => _) Q' E = _
  rw [wp_bind]
  congr 1
  funext x S1
  cases x <;> rfl
@[simp ↓] theorem w_dvs : WR (evi C G (.dvs a) ρ S) Q' E = WR (ev C G a ρ S) (fun x S1 => fdP x fun ks ds => Q' (.ds ((ks.zip ds).map fun kv => kv.2)) S1) E := by
  show WR (R.bind _ fun x S1 => _) Q' E = _
  rw [wp_bind]
  congr 1
  funext x S1
  cases x <;> rfl
def fmP (x : D) (f : List NestedKey → List D → Prop) : Prop := match x with
  | .fm ks ds => f ks ds
  | _ => False
@[simp] theorem fmP_fm {ks : List NestedKey} {ds : List D} {f : List NestedKey → List D → Prop} : fmP (.fm ks ds) f = f ks ds := rfl
@[simp ↓] theorem w_dksn : WR (evi C G (.dksn a) ρ S) Q' E = WR (ev C G a ρ S) (fun x S1 => fmP x fun ks ds => Q' (.ds ((ks.zip ds).map fun kv => nD kv.1)) S1) E := by
  show WR (R.bind _ fun x S1 => _) Q' E = _
  rw [wp_bind]
  congr 1
  funext x S1
  cases x <;> rfl
end
end CC
namespace CC
open PySem PySem.Spec PyProof.Rows L2
theorem lt_mono {j k : Nat} (h : j ≤ k) : ∀ {d : D}, d.lt j = true → d.lt k = true
  | .non, _ => by simp
  | .bl _, _ => by simp
  | .int _, _ => by simp
  | .str _, _ => by simp
  | .ty _, _ => by simp
  | .fn _, _ => by simp
  | .loc n, q => by simp only [lt_loc, decide_eq_true_eq] at q ⊢; omega
  | .tup ds, q => by
    simp only [lt_tup, ltL, List.all_eq_true] at q ⊢
    exact fun d hd => lt_mono h (q d hd)
  | .fl ds, q => by
    simp only [lt_fl, ltL, List.all_eq_true] at q ⊢
    exact fun d hd => lt_mono h (q d hd)
  | .fd ks ds, q => by
    simp only [lt_fd, ltL, List.all_eq_true] at q ⊢
    exact fun d hd => lt_mono h (q d hd)
  | .exn c ds, q => by
    simp only [lt_exn, ltL, List.all_eq_true] at q ⊢
    exact fun d hd => lt_mono h (q d hd)
  | .fm ks ds, q => by
    simp only [lt_fm, ltL, List.all_eq_true] at q ⊢
    exact fun d hd => lt_mono h (q d hd)
  | .bd ds, q => by
    simp only [lt_bd, ltL, List.all_eq_true] at q ⊢
    exact fun d hd => lt_mono h (q d hd)
  | .cls _, _ => by simp
theorem lt_of {k : Nat} {d : D} (h : d.lt 0 = true) : d.lt k = true := lt_mono (Nat.zero_le _) h
@[simp] theorem lt_lenS {S : Sto} {d : D} (h : d.lt 0 = true) : d.lt S.length = true := lt_of h
@[simp] theorem lt_succ {k : Nat} {d : D} (h : d.lt 0 = true) : d.lt (k + 1) = true := lt_of h
@[simp] theorem ltL_nil {k : Nat} : ltL k [] = true := by unfold ltL; exact List.all_nil
@[simp] theorem ltL_cons {k : Nat} {d : D} {ds : List D} : ltL k (d :: ds) = (d.lt k && ltL k ds) := by unfold ltL; exact List.all_cons
@[simp] theorem ltL_append {k : Nat} {a b : List D} : ltL k (a ++ b) = (ltL k a && ltL k b) := List.all_append
theorem ltL_map {α : Type} {k : Nat} {f : α → D} {l : List α} (h : ∀ x ∈ l, (f x).lt k = true) : ltL k (l.map f) = true := by
  simp only [ltL, List.all_map, List.all_eq_true]
  exact h
@[simp] theorem ltL_map' {α : Type} {k : Nat} {f : α → D} {l : List α} (h : ∀ x, (f x).lt k = true) : ltL k (l.map f) = true := ltL_map fun x _ => h x
@[simp] theorem ltL_replicate {k n : Nat} {d : D} (h : d.lt k = true) : ltL k (List.replicate n d) = true := by
  simp only [ltL, List.all_eq_true]
  intro x hx
  rw [(List.mem_replicate.mp hx).2]
  exact h
theorem ltL_sub {k : Nat} {a b : List D} (h : ∀ d ∈ a, d ∈ b) (q : ltL k b = true) : ltL k a = true := by
  simp only [ltL, List.all_eq_true] at q ⊢
  exact fun d hd => q d (h d hd)
@[simp] theorem ltL_tail {k : Nat} {l : List D} (h : ltL k l = true) : ltL k l.tail = true := ltL_sub (fun _ hd => List.mem_of_mem_tail hd) h
@[simp] theorem ltL_take {k n : Nat} {l : List D} (h : ltL k l = true) : ltL k (l.take n) = true := ltL_sub (fun _ hd => List.mem_of_mem_take hd) h
@[simp] theorem ltL_drop {k n : Nat} {l : List D} (h : ltL k l = true) : ltL k (l.drop n) = true := ltL_sub (fun _ hd => List.mem_of_mem_drop hd) h
@[simp] theorem ltL_reverse {k : Nat} {l : List D} (h : ltL k l = true) : ltL k l.reverse = true := ltL_sub (fun _ hd => List.mem_reverse.mp hd) h
@[simp] theorem ltL_cut {k : Nat} {l : List D} {lo hi : Option Int} (h : ltL k l = true) : ltL k (cut l lo hi) = true := by unfold cut; exact ltL_take (ltL_drop h)
section
variable {S S' : Sto} {J : List SO} {b : Bool} {n : Nat} {x y : SO}
theorem keepS_app : keepS S (S ++ J) := fun i so hi e => .inl (by rw [List.getElem?_append_left hi] at e; exact e)
@[simp] theorem cut_app : cutS S true (S ++ J) = S := by
  unfold cutS
  rw [if_pos ⟨rfl, keepS_app⟩, List.take_left']
  rfl
@[simp] theorem cut_same : cutS S b S = S := by
  unfold cutS
  split
  · exact List.take_length
  · rfl
theorem cut_len (h : S'.length = S.length) : cutS S b S' = S' := by
  unfold cutS
  split
  · rw [← h]; exact List.take_length
  · rfl
@[simp] theorem cut_set : cutS S b (S.set n x) = S.set n x := cut_len (by simp)
@[simp] theorem cut_false : cutS S false S' = S' := by
  unfold cutS
  rw [if_neg (by simp)]
@[simp] theorem cut_set_app (h : x.lt S.length = true) : cutS S true (S.set n x ++ J) = S.set n x := by
  unfold cutS
  have k : keepS S (S.set n x ++ J) := fun i so hi e => by
    rw [List.getElem?_append_left (by simpa using hi)] at e
    by_cases c : n = i
    · subst c
      rw [List.getElem?_set_self hi] at e
      cases e
      exact .inr h
    · rw [List.getElem?_set_ne c] at e
      exact .inl e
  rw [if_pos ⟨rfl, k⟩, List.take_left' (by simp)]
@[simp] theorem so_lst {k : Nat} {ds : List D} : (SO.lst ds).lt k = ltL k ds := rfl
@[simp] theorem so_frz {k : Nat} {ds : List D} : (SO.frz ds).lt k = ltL k ds := rfl
@[simp] theorem so_dic {k : Nat} {kvs : List (Key × D)} : (SO.dic kvs).lt k = ltL k (kvs.map (·.2)) := rfl
@[simp] theorem so_fdic {k : Nat} {kvs : List (Key × D)} : (SO.fdic kvs).lt k = ltL k (kvs.map (·.2)) := rfl
@[simp] theorem so_dn {k : Nat} {kvs : List (NestedKey × D)} : (SO.dn kvs).lt k = ltL k (kvs.map (·.2)) := rfl
@[simp] theorem so_fdn {k : Nat} {kvs : List (NestedKey × D)} : (SO.fdn kvs).lt k = ltL k (kvs.map (·.2)) := rfl
@[simp] theorem new_get : (S ++ x :: J)[S.length]? = some x := by simp
@[simp] theorem new_get1 : (S ++ x :: y :: J)[S.length + 1]? = some y := by
  rw [List.getElem?_append_right (by omega)]
  simp
@[simp] theorem new_set {z : SO} : (S ++ x :: J).set S.length z = S ++ z :: J := by
  rw [List.set_append_right _ _ (Nat.le_refl _)]
  simp
@[simp] theorem new_set1 {z : SO} : (S ++ x :: y :: J).set (S.length + 1) z = S ++ x :: z :: J := by
  rw [List.set_append_right _ _ (by omega)]
  simp
theorem old_get {z : SO} (h : S[n]? = some z) : (S ++ J)[n]? = some z := by
  rw [List.getElem?_append_left (List.getElem?_eq_some_iff.mp h).1]
  exact h
theorem old_lt {z : SO} (h : S[n]? = some z) : n < S.length := (List.getElem?_eq_some_iff.mp h).1
theorem old_set {z u : SO} (h : S[n]? = some z) : (S ++ J).set n u = S.set n u ++ J := List.set_append_left _ _ (old_lt h)
theorem set_get {z u : SO} (h : S[n]? = some z) : (S.set n u)[n]? = some u := List.getElem?_set_self (old_lt h)
theorem lst_at {ds : List D} (h : S[n]? = some (.lst ds)) : lstAt S n = some ds := by unfold lstAt; rw [h]
theorem lst_frz {ds : List D} (h : S[n]? = some (.frz ds)) : lstAt S n = some ds := by unfold lstAt; rw [h]
theorem lstM_at {ds : List D} (h : S[n]? = some (.lst ds)) : lstM S (.loc n) = some ds := by show (match S[n]? with | some (.lst ds) => some ds | _ => none) = _; rw [h]
theorem lstW_at {ds : List D} (h : S[n]? = some (.lst ds)) : lstW S (.loc n) = some ds := by show (match S[n]? with | some (.lst ds) => some ds | _ => none) = _; rw [h]
@[simp] theorem lstAt_new {ds : List D} : lstAt (S ++ .lst ds :: J) S.length = some ds := lst_at new_get
@[simp] theorem lstM_new {ds : List D} : lstM (S ++ .lst ds :: J) (.loc S.length) = some ds := lstM_at new_get
@[simp] theorem lstW_new {ds : List D} : lstW (S ++ .lst ds :: J) (.loc S.length) = some ds := lstW_at new_get
@[simp] theorem lstM_new1 {ds : List D} : lstM (S ++ x :: .lst ds :: J) (.loc (S.length + 1)) = some ds := lstM_at new_get1
@[simp] theorem lstW_new1 {ds : List D} : lstW (S ++ x :: .lst ds :: J) (.loc (S.length + 1)) = some ds := lstW_at new_get1
@[simp] theorem lstAt_new1 {ds : List D} : lstAt (S ++ x :: .lst ds :: J) (S.length + 1) = some ds := lst_at new_get1
variable {Q : D → Sto → Prop} {E : Nat → List D → Sto → Prop} {ds : List D}
theorem fr_at {S0 : Sto} (h : S[n]? = some (.lst ds)) : WR (trim S0 (frzD (.loc n) S)) Q E = Q (.fl ds) (cutS S0 (ltL S0.length ds) (S.set n (.frz ds))) := by
  have e : frzD (.loc n) S = .ok (.fl ds) (S.set n (.frz ds)) := by
    unfold frzD
    simp only [h]
  rw [e, wp_trim, w_ok, lt_fl]
theorem fr_dat {S0 : Sto} {kvs : List (Key × D)} (h : S[n]? = some (.dic kvs)) : WR (trim S0 (frzD (.loc n) S)) Q E = Q (.fd (kvs.map (·.1)) (kvs.map (·.2))) (cutS S0 (ltL S0.length (kvs.map (·.2))) (S.set n (.fdic kvs))) := by
  have e : frzD (.loc n) S = .ok (.fd (kvs.map (·.1)) (kvs.map (·.2))) (S.set n (.fdic kvs)) := by
    unfold frzD
    simp only [h]
  rw [e, wp_trim, w_ok, lt_fd]
theorem fr_nat {S0 : Sto} {kvs : List (NestedKey × D)} (h : S[n]? = some (.dn kvs)) : WR (trim S0 (frzD (.loc n) S)) Q E = Q (.fm (kvs.map (·.1)) (kvs.map (·.2))) (cutS S0 (ltL S0.length (kvs.map (·.2))) (S.set n (.fdn kvs))) := by
  have e : frzD (.loc n) S = .ok (.fm (kvs.map (·.1)) (kvs.map (·.2))) (S.set n (.fdn kvs)) := by
    unfold frzD
    simp only [h]
  rw [e, wp_trim, w_ok, lt_fm]
@[simp ↓] theorem fr_new (q : ltL S.length ds = true) : WR (trim S (frzD (.loc S.length) (S ++ [.lst ds]))) Q E = Q (.fl ds) S := by
  rw [fr_at new_get, q, new_set, cut_app]
@[simp ↓] theorem fr_new0 : WR (trim S (frzD (.loc S.length) (S ++ [.lst []]))) Q E = Q (.fl []) S := fr_new rfl
@[simp ↓] theorem fr_dnew {kvs : List (Key × D)} (q : ltL S.length (kvs.map (·.2)) = true) : WR (trim S (frzD (.loc S.length) (S ++ [.dic kvs]))) Q E = Q (.fd (kvs.map (·.1)) (kvs.map (·.2))) S := by
  rw [fr_dat new_get, q, new_set, cut_app]
@[simp ↓] theorem fr_dnew0 : WR (trim S (frzD (.loc S.length) (S ++ [.dic []]))) Q E = Q (.fd [] []) S := fr_dnew (kvs := []) rfl
@[simp ↓] theorem fr_nnew {kvs : List (NestedKey × D)} (q : ltL S.length (kvs.map (·.2)) = true) : WR (trim S (frzD (.loc S.length) (S ++ [.dn kvs]))) Q E = Q (.fm (kvs.map (·.1)) (kvs.map (·.2))) S := by
  rw [fr_nat new_get, q, new_set, cut_app]
@[simp ↓] theorem fr_nnew0 : WR (trim S (frzD (.loc S.length) (S ++ [.dn []]))) Q E = Q (.fm [] []) S := fr_nnew (kvs := []) rfl
theorem cut_gen {S0 S2 : Sto} (hl : S2.length = S0.length) (hk : ∀ (i : Nat) (so : SO), S2[i]? = some so → S0[i]? = some so ∨ so.lt S0.length = true) : cutS S0 true (S2 ++ J) = S2 := by
  unfold cutS
  rw [if_pos ⟨rfl, fun i so hi e => hk i so (by rw [List.getElem?_append_left (by omega)] at e; exact e)⟩, List.take_left' hl]
theorem keep_set (h : y.lt S.length = true) : ∀ (i : Nat) (so : SO), (S.set n y)[i]? = some so → (S.set n x)[i]? = some so ∨ so.lt (S.set n x).length = true := fun i so e => by
  by_cases c : n = i
  · subst c
    by_cases hi : n < S.length
    · rw [List.getElem?_set_self hi] at e
      cases e
      exact .inr (by rw [List.length_set]; exact h)
    · rw [List.getElem?_eq_none (by simpa using hi)] at e
      cases e
  · rw [List.getElem?_set_ne c] at e ⊢
    exact .inl e
@[simp] theorem cut_set2 (h : y.lt S.length = true) : cutS (S.set n x) true (S.set n y ++ J) = S.set n y := cut_gen (by simp) (keep_set h)
@[simp] theorem cut_set3 {b : Bool} : cutS (S.set n x) b (S.set n y) = S.set n y := cut_len (by simp)
@[simp ↓] theorem fr_setG (hy : y.lt S.length = true) (q : ltL S.length ds = true) : WR (trim (S.set n x) (frzD (.loc (S.set n y).length) (S.set n y ++ [.lst ds]))) Q E = Q (.fl ds) (S.set n y) := by
  rw [fr_at new_get, new_set, List.length_set, q, cut_set2 hy]
@[simp ↓] theorem fr_setS (hy : y.lt S.length = true) (q : ltL S.length ds = true) : WR (trim S (frzD (.loc (S.set n y).length) (S.set n y ++ [.lst ds]))) Q E = Q (.fl ds) (S.set n y) := by
  rw [fr_at new_get, new_set, q, cut_set_app hy]
@[simp ↓] theorem fr_setG' (hy : y.lt S.length = true) (q : ltL S.length ds = true) : WR (trim (S.set n x) (frzD (.loc S.length) (S.set n y ++ [.lst ds]))) Q E = Q (.fl ds) (S.set n y) := by
  have := fr_setG (x := x) (n := n) (Q := Q) (E := E) hy q
  rwa [List.length_set] at this
@[simp ↓] theorem fr_setS' (hy : y.lt S.length = true) (q : ltL S.length ds = true) : WR (trim S (frzD (.loc S.length) (S.set n y ++ [.lst ds]))) Q E = Q (.fl ds) (S.set n y) := by
  have := fr_setS (n := n) (Q := Q) (E := E) hy q
  rwa [List.length_set] at this
@[simp ↓] theorem fr_int {S0 : Sto} {i : Int} : WR (trim S0 (frzD (.int i) S)) Q E = Q (.int i) (cutS S0 true S) := by rw [wp_trim]; show Q _ (cutS S0 _ S) = _; rw [lt_int]
@[simp ↓] theorem fr_bl {S0 : Sto} {i : Bool} : WR (trim S0 (frzD (.bl i) S)) Q E = Q (.bl i) (cutS S0 true S) := by rw [wp_trim]; show Q _ (cutS S0 _ S) = _; rw [lt_bl]
@[simp ↓] theorem fr_str {S0 : Sto} {i : Str} : WR (trim S0 (frzD (.str i) S)) Q E = Q (.str i) (cutS S0 true S) := by rw [wp_trim]; show Q _ (cutS S0 _ S) = _; rw [lt_str]
@[simp ↓] theorem fr_non {S0 : Sto} : WR (trim S0 (frzD .non S)) Q E = Q .non (cutS S0 true S) := by rw [wp_trim]; show Q _ (cutS S0 _ S) = _; rw [lt_non]
@[simp ↓] theorem fr_tup {S0 : Sto} : WR (trim S0 (frzD (.tup ds) S)) Q E = Q (.tup ds) (cutS S0 (ltL S0.length ds) S) := by rw [wp_trim]; show Q _ (cutS S0 _ S) = _; rw [lt_tup]
@[simp ↓] theorem fr_fl {S0 : Sto} : WR (trim S0 (frzD (.fl ds) S)) Q E = Q (.fl ds) (cutS S0 (ltL S0.length ds) S) := by rw [wp_trim]; show Q _ (cutS S0 _ S) = _; rw [lt_fl]
end
section
variable {S S1 : Sto} {n i m : Nat} {p : Po} {C : CallSem} {G : Nat → Option D} {A : Sx} {ρ : Env} {ds : List D}
@[simp ↓] theorem s_fz : Ws (run n C G (.fz i A) ρ S) p = Ws (run n C G A ρ S) { p with nx := fun ρ1 S1 => Ws (fzE i S ρ1 S1) p } := by
  show Ws (match run n C G A ρ S with
    | .nx ρ1 S1 => fzE i S ρ1 S1
    | r => r) p = _
  cases run n C G A ρ S <;> rfl
@[simp ↓] theorem s_wip : Ws (run n C G (.wip i A) ρ S) p = Ws (run n C G A (ρ.set i none) S) p := rfl
theorem fz_at (h : ρ[i]?.bind id = some (.loc m)) (e : S1[m]? = some (.lst ds)) : Ws (fzE i S ρ S1) p = p.nx (ρ.set i (some (.fl ds))) (cutS S (envLt S.length (ρ.set i (some (.fl ds)))) (S1.set m (.frz ds))) := by
  unfold fzE
  rw [h]
  have e2 : frzD (.loc m) S1 = .ok (.fl ds) (S1.set m (.frz ds)) := by unfold frzD; simp only [e]
  simp only [e2]
  rfl
theorem fz_old (h : ρ[i]?.bind id = some (.loc m)) (e : S1[m]? = some (.lst ds)) (l : S1.length = S.length) : Ws (fzE i S ρ S1) p = p.nx (ρ.set i (some (.fl ds))) (S1.set m (.frz ds)) := by
  rw [fz_at h e, cut_len (by rw [List.length_set, l])]
@[simp] theorem envLt_nil {k : Nat} : envLt k [] = true := rfl
@[simp] theorem envLt_none {k : Nat} {ρ : Env} : envLt k (none :: ρ) = envLt k ρ := rfl
@[simp] theorem envLt_some {k : Nat} {d : D} {ρ : Env} : envLt k (some d :: ρ) = (d.lt k && envLt k ρ) := rfl
end
section
variable {i : Nat} {t a b : Xp} {d : D} {ds : List D} {ρ : Env} {vs : List Nat}
@[simp] theorem bindT_var : bindT (.var i) d ρ = some (ρ.set i (some d)) := by simp [bindT]
@[simp] theorem bindT_tup : bindT (.tup t) (.tup ds) ρ = bindL t ds ρ := by simp [bindT]
@[simp] theorem bindT_lst : bindT (.lst t) (.fl ds) ρ = bindL t ds ρ := by simp [bindT]
@[simp] theorem bindL_nil : bindL .nil [] ρ = some ρ := by simp [bindL]
@[simp] theorem bindL_cons : bindL (.cons a b) (d :: ds) ρ = (bindT a d ρ).bind fun ρ1 => bindL b ds ρ1 := by simp [bindL]
@[simp] theorem wipeE_nil : wipeE ρ [] = ρ := rfl
@[simp] theorem wipeE_cons : wipeE ρ (i :: vs) = (wipeE ρ vs).set i none := rfl
end
structure Walk (src : Src) (S : Sto) (l : List D) : Prop where
  get : ∀ i : Nat, src.get i S = some l[i]?
  size : l.length ≤ src.size S
theorem walk_ds {l : List D} {S : Sto} : Walk (.ds l) S l := ⟨fun _ => rfl, Nat.le_refl _⟩
theorem walk_lst {n : Nat} {l : List D} {S : Sto} (h : lstAt S n = some l) : Walk (.lst n) S l :=
  ⟨fun i => by show (lstAt S n).map _ = _; rw [h]; rfl, by show _ ≤ ((lstAt S n).getD []).length; rw [h]; exact Nat.le_refl _⟩
theorem lcS_fm {α : Type} {src : Src} {m : List α} {enc : α → D} {tg : Xp} {cond : Env → Sto → R Bool} {elt : Env → Sto → R D} {ρ : Env} {S : Sto} {Q : List D → Sto → Prop} {E : Nat → List D → Sto → Prop} (w : Walk src S (m.map enc)) (c : α → Bool) (f : α → D) (hl : m.length ≤ sizeLine)
    (go : ∀ x ∈ m, optP (bindT tg (enc x) ρ) fun ρ1 => WR (cond ρ1 S) (fun b S2 => b = c x ∧ S2 = S) Eo ∧ (c x = true → WR (elt ρ1 S) (fun y S3 => y = f x ∧ S3 = S) Eo))
    (fin : Q ((m.filter c).map f) S) : WR (lcl src tg cond elt ρ (Src.size src S + 1) 0 [] S) Q E := by
  have hw := w.size
  rw [List.length_map] at hw
  refine wp_lcl m.length (fun i acc S1 => acc = ((m.take i).filter c).map f ∧ S1 = S) ?_ ?_ _ 0 [] S (Nat.zero_le _) (by omega) ⟨by simp, rfl⟩
  · rintro i acc S1 hi ⟨rfl, rfl⟩
    have g := go m[i] (List.getElem_mem hi)
    cases hb : bindT tg (enc m[i]) ρ with
    | none => rw [hb] at g; exact g.elim
    | some ρ1 =>
    rw [hb] at g
    obtain ⟨g1, h4⟩ := g
    refine ⟨enc m[i], ρ1, by rw [w.get i, List.getElem?_map, List.getElem?_eq_getElem hi]; rfl, hb, WR.mono g1 (fun b S2 h => ?_) (fun _ _ _ z => z)⟩
    obtain ⟨rfl, rfl⟩ := h
    have e : m.take (i + 1) = m.take i ++ [m[i]] := by rw [List.take_succ, List.getElem?_eq_getElem hi]; rfl
    have lt : (((m.take i).filter c).map f).length < sizeLine := by
      have a1 := List.length_filter_le c (m.take i)
      simp only [List.length_map, List.length_take] at a1 ⊢
      omega
    by_cases hc : c m[i] = true
    · rw [if_pos hc]
      refine WR.mono (h4 hc) (fun y S3 z => ?_) (fun _ _ _ z => z)
      obtain ⟨rfl, rfl⟩ := z
      refine ⟨lt, ?_, rfl⟩
      rw [e, List.filter_append, List.map_append, List.filter_cons_of_pos hc]
      rfl
    · rw [if_neg hc]
      refine ⟨?_, rfl⟩
      rw [e, List.filter_append, List.map_append, List.filter_cons_of_neg hc]
      simp only [List.filter_nil, List.map_nil, List.append_nil]
  · rintro acc S1 ⟨rfl, rfl⟩
    refine ⟨by rw [w.get]; simp, ?_⟩
    rw [List.take_length]
    exact fin
theorem filt_true {α : Type} {l : List α} : l.filter (fun _ => true) = l := by simp
theorem lcS_m {α : Type} {src : Src} {m : List α} {enc : α → D} {tg : Xp} {C : CallSem} {G : Nat → Option D} {elt : Env → Sto → R D} {ρ : Env} {S : Sto} {Q : List D → Sto → Prop} {E : Nat → List D → Sto → Prop} (w : Walk src S (m.map enc)) (f : α → D) (hl : m.length ≤ sizeLine)
    (go : ∀ x ∈ m, optP (bindT tg (enc x) ρ) fun ρ1 => WR (elt ρ1 S) (fun y S3 => y = f x ∧ S3 = S) Eo)
    (fin : Q (m.map f) S) : WR (lcl src tg (fun ρ1 S2 => asT (ev C G (.bl true) ρ1 S2)) elt ρ (Src.size src S + 1) 0 [] S) Q E := by
  refine lcS_fm w (fun _ => true) f hl (fun x hx => ?_) (by rw [filt_true]; exact fin)
  have g := go x hx
  cases hb : bindT tg (enc x) ρ with
  | none => rw [hb] at g; exact g.elim
  | some ρ1 =>
    rw [hb] at g
    exact ⟨⟨rfl, rfl⟩, fun _ => g⟩
theorem lc_m {α : Type} {m : List α} {enc : α → D} {tg : Xp} {C : CallSem} {G : Nat → Option D} {elt : Env → Sto → R D} {ρ : Env} {S : Sto} {Q : List D → Sto → Prop} {E : Nat → List D → Sto → Prop} (f : α → D) (hl : m.length ≤ sizeLine)
    (go : ∀ x ∈ m, optP (bindT tg (enc x) ρ) fun ρ1 => WR (elt ρ1 S) (fun y S3 => y = f x ∧ S3 = S) Eo)
    (fin : Q (m.map f) S) : WR (lcl (.ds (m.map enc)) tg (fun ρ1 S2 => asT (ev C G (.bl true) ρ1 S2)) elt ρ (Src.size (.ds (m.map enc)) S + 1) 0 [] S) Q E := lcS_m walk_ds f hl go fin
theorem lcS_d {src : Src} {l : List D} {tg : Xp} {C : CallSem} {G : Nat → Option D} {elt : Env → Sto → R D} {ρ : Env} {S : Sto} {Q : List D → Sto → Prop} {E : Nat → List D → Sto → Prop} (w : Walk src S l) (f : D → D) (hl : l.length ≤ sizeLine)
    (go : ∀ x ∈ l, optP (bindT tg x ρ) fun ρ1 => WR (elt ρ1 S) (fun y S3 => y = f x ∧ S3 = S) Eo)
    (fin : Q (l.map f) S) : WR (lcl src tg (fun ρ1 S2 => asT (ev C G (.bl true) ρ1 S2)) elt ρ (Src.size src S + 1) 0 [] S) Q E :=
  lcS_m (m := l) (enc := id) (by rw [List.map_id]; exact w) f hl go fin
theorem lc_d {l : List D} {tg : Xp} {C : CallSem} {G : Nat → Option D} {elt : Env → Sto → R D} {ρ : Env} {S : Sto} {Q : List D → Sto → Prop} {E : Nat → List D → Sto → Prop} (f : D → D) (hl : l.length ≤ sizeLine)
    (go : ∀ x ∈ l, optP (bindT tg x ρ) fun ρ1 => WR (elt ρ1 S) (fun y S3 => y = f x ∧ S3 = S) Eo)
    (fin : Q (l.map f) S) : WR (lcl (.ds l) tg (fun ρ1 S2 => asT (ev C G (.bl true) ρ1 S2)) elt ρ (Src.size (.ds l) S + 1) 0 [] S) Q E := lcS_d walk_ds f hl go fin
theorem ws_for_map {α : Type} {m : List α} {f : α → D} {tg : Xp} {b : Env → Sto → Rs} {p : Po} {ρ : Env} {S : Sto} (I : List α → Env → Sto → Prop)
    (go : ∀ d r ρ S, I (d :: r) ρ S → optP (bindT tg (f d) ρ) fun ρ1 => Ws (b ρ1 S) { nx := I r, ct := I r, bk := p.nx, rt := p.rt, ex := p.ex })
    (fin : ∀ ρ S, I [] ρ S → p.nx ρ S) (h : I m ρ S) : Ws (forl (.ds (m.map f)) tg b (Src.size (.ds (m.map f)) S + 1) 0 ρ S) p := by
  refine ws_forl m.length (fun i ρ S => I (m.drop i) ρ S) (fun i ρ S hi z => ?_) (fun ρ S z => ?_) _ 0 ρ S (Nat.zero_le _) (by show _ < 0 + ((m.map f).length + 1); simp) h
  · have e : m.drop i = m[i] :: m.drop (i + 1) := List.drop_eq_getElem_cons hi
    have z' : I (m.drop i) ρ S := z
    rw [e] at z'
    have g := go _ _ ρ S z'
    cases hb : bindT tg (f m[i]) ρ with
    | none => rw [hb] at g; exact g.elim
    | some ρ1 =>
      rw [hb] at g
      exact ⟨f m[i], ρ1, by show some ((m.map f)[i]?) = _; rw [List.getElem?_map, List.getElem?_eq_getElem hi]; rfl, hb, g⟩
  · have z' : I (m.drop m.length) ρ S := z
    rw [List.drop_length] at z'
    exact ⟨by show some ((m.map f)[m.length]?) = _; simp, fin ρ S z'⟩
def forD (tg : Xp) (b : Env → Sto → Rs) : List D → Env → Sto → Rs
  | [], ρ, S => .nx ρ S
  | d :: l, ρ, S => match bindT tg d ρ with
    | none => .bad
    | some ρ1 => match b ρ1 S with
      | .nx ρ2 S2 => forD tg b l ρ2 S2
      | .ct ρ2 S2 => forD tg b l ρ2 S2
      | .bk ρ2 S2 => .nx ρ2 S2
      | r => r
theorem forl_D {tg : Xp} {b : Env → Sto → Rs} {l : List D} : ∀ {i f : Nat} {ρ : Env} {S : Sto}, i ≤ l.length → l.length < i + f → forl (.ds l) tg b f i ρ S = forD tg b (l.drop i) ρ S
  | i, 0, ρ, S, h1, h2 => by omega
  | i, f + 1, ρ, S, h1, h2 => by
    show (match (Src.ds l).get i S with
      | none => Rs.bad
      | some none => Rs.nx ρ S
      | some (some d) => match bindT tg d ρ with
        | none => Rs.bad
        | some ρ1 => match b ρ1 S with
          | .nx ρ2 S2 => forl (.ds l) tg b f (i + 1) ρ2 S2
          | .ct ρ2 S2 => forl (.ds l) tg b f (i + 1) ρ2 S2
          | .bk ρ2 S2 => .nx ρ2 S2
          | r => r) = _
    by_cases c : i < l.length
    · have e : (Src.ds l).get i S = some (some l[i]) := by show some l[i]? = _; rw [List.getElem?_eq_getElem c]
      rw [e, List.drop_eq_getElem_cons c]
      show _ = (match bindT tg l[i] ρ with
        | none => Rs.bad
        | some ρ1 => match b ρ1 S with
          | .nx ρ2 S2 => forD tg b (l.drop (i + 1)) ρ2 S2
          | .ct ρ2 S2 => forD tg b (l.drop (i + 1)) ρ2 S2
          | .bk ρ2 S2 => .nx ρ2 S2
          | r => r)
      simp only
      cases bindT tg l[i] ρ with
      | none => rfl
      | some ρ1 =>
        simp only
        cases b ρ1 S with
        | nx ρ2 S2 => exact forl_D (by omega) (by omega)
        | ct ρ2 S2 => exact forl_D (by omega) (by omega)
        | _ => rfl
    · have e : (Src.ds l).get i S = some none := by show some l[i]? = _; rw [List.getElem?_eq_none (by omega)]
      rw [e, List.drop_of_length_le (by omega)]
      rfl
theorem ws_ds {l : List D} {tg : Xp} {b : Env → Sto → Rs} {p : Po} {ρ : Env} {S S' : Sto} : Ws (forl (.ds l) tg b (Src.size (.ds l) S' + 1) 0 ρ S) p = Ws (forD tg b l ρ S) p := by
  rw [forl_D (Nat.zero_le _) (by show l.length < 0 + (l.length + 1); omega), List.drop_zero]
@[simp ↓] theorem ws_D_nil {tg : Xp} {b : Env → Sto → Rs} {p : Po} {ρ : Env} {S : Sto} : Ws (forD tg b [] ρ S) p = p.nx ρ S := rfl
@[simp ↓] theorem ws_D_cons {d : D} {l : List D} {tg : Xp} {b : Env → Sto → Rs} {p : Po} {ρ : Env} {S : Sto} : Ws (forD tg b (d :: l) ρ S) p = optP (bindT tg d ρ) fun ρ1 => Ws (b ρ1 S) { p with nx := fun ρ2 S2 => Ws (forD tg b l ρ2 S2) p, ct := fun ρ2 S2 => Ws (forD tg b l ρ2 S2) p, bk := p.nx } := by
  show Ws (match bindT tg d ρ with
    | none => .bad
    | some ρ1 => match b ρ1 S with
      | .nx ρ2 S2 => forD tg b l ρ2 S2
      | .ct ρ2 S2 => forD tg b l ρ2 S2
      | .bk ρ2 S2 => .nx ρ2 S2
      | r => r) p = _
  cases bindT tg d ρ with
  | none => rfl
  | some ρ1 => simp only [optP_some]; cases b ρ1 S <;> rfl
theorem rd_get {lo : Int} {n i : Nat} (h : i < n) : (rangeD lo n)[i]? = some (.int (lo + (i : Nat))) := by
  rw [rangeD_get, if_pos h]
theorem rangeD_len {lo : Int} {n : Nat} : (rangeD lo n).length = n := by unfold rangeD; simp
theorem ws_range {lo : Int} {m : Nat} {tg : Nat} {b : Env → Sto → Rs} {p : Po} {ρ : Env} {S : Sto} (I : Nat → Env → Sto → Prop)
    (go : ∀ i ρ S, i < m → I i ρ S → Ws (b (ρ.set tg (some (.int (lo + (i : Nat))))) S) { nx := I (i + 1), ct := I (i + 1), bk := p.nx, rt := p.rt, ex := p.ex })
    (fin : ∀ ρ S, I m ρ S → p.nx ρ S) (h : I 0 ρ S) : Ws (forl (.ds (rangeD lo m)) (.var tg) b (Src.size (.ds (rangeD lo m)) S + 1) 0 ρ S) p := by
  refine ws_forl m I (fun i ρ S hi z => ⟨_, _, by show some ((rangeD lo m)[i]?) = _; rw [rd_get hi], rfl, go i ρ S hi z⟩) (fun ρ S z => ⟨by show some ((rangeD lo m)[m]?) = _; rw [List.getElem?_eq_none (by rw [rangeD_len]; omega)], fin ρ S z⟩) _ 0 ρ S (Nat.zero_le _) (by show m < 0 + ((rangeD lo m).length + 1); rw [rangeD_len]; omega) h
theorem s_seq {n : Nat} {C : CallSem} {G : Nat → Option D} {ρ : Env} {S : Sto} {p : Po} {A B : Sx} (I : Env → Sto → Prop) (h1 : Ws (run n C G A ρ S) { p with nx := I }) (h2 : ∀ ρ S, I ρ S → Ws (run n C G B ρ S) p) : Ws (run n C G (.cons A B) ρ S) p := by
  rw [s_cons]
  exact Ws.mono h1 h2 (fun _ _ z => z) (fun _ _ z => z) (fun _ _ z => z) (fun _ _ _ _ z => z)
theorem mt_append {n : Nat} {d : D} {ds : List D} {S : Sto} {Q : D → Sto → Prop} {E : Nat → List D → Sto → Prop} (h : S[n]? = some (.lst ds)) : WR (mtD .append (.loc n) [d] S) Q E = (ds.length < sizeLine ∧ Q .non (S.set n (.lst (ds ++ [d])))) := by
  show WR (match S[n]? with
    | some (.lst ds) => mtW n S (mtL .append ds [d] S)
    | _ => .bad) Q E = _
  rw [h]
  show WR (mtW n S (if ds.length < sizeLine then some (.non, ds ++ [d]) else none)) Q E = _
  by_cases c : ds.length < sizeLine
  · rw [if_pos c]
    show Q _ _ = _
    simp [c]
  · rw [if_neg c]
    show False = _
    simp [c]
@[simp ↓] theorem mt_appN {d : D} {ds : List D} {S : Sto} {J : List SO} {Q : D → Sto → Prop} {E : Nat → List D → Sto → Prop} : WR (mtD .append (.loc S.length) [d] (S ++ .lst ds :: J)) Q E = (ds.length < sizeLine ∧ Q .non (S ++ .lst (ds ++ [d]) :: J)) := by
  rw [mt_append new_get, new_set]
theorem isLst_at {n : Nat} {ds : List D} {S : Sto} (h : S[n]? = some (.lst ds)) : isLst (.loc n) S = true := by
  show (lstAt S n).isSome = true
  rw [lst_at h]
  rfl
@[simp] theorem isLst_new {ds : List D} {S : Sto} {J : List SO} : isLst (.loc S.length) (S ++ .lst ds :: J) = true := isLst_at new_get
theorem setIx_at {S : Sto} {n : Nat} {i : Int} {j : Nat} {d : D} {ds : List D} (h : S[n]? = some (.lst ds)) (e : ixN ds.length i = some j) : setIx (.loc n) (.int i) d S = some (S.set n (.lst (ds.set j d))) := by
  show (match S[n]? with
    | some (.lst ds) => (ixN ds.length i).map fun j => S.set n (.lst (ds.set j d))
    | some (.dic kvs) => (kD (.int i)).bind fun k => if kvs.length < sizeLine then some (S.set n (.dic (putA kvs k d))) else none
    | some (.dn kvs) => (kT (.int i)).bind fun k => if kvs.length < sizeLine then some (S.set n (.dn (putA kvs k d))) else none
    | _ => none) = _
  rw [h]
  show (ixN ds.length i).map _ = _
  rw [e]
  rfl
theorem log2_lt {i : Int} {k : Nat} (h0 : 0 ≤ i) (h : i < 2 ^ k) (hk : 0 < k) : i.natAbs.log2 < k := by
  obtain ⟨j, rfl⟩ := Int.eq_ofNat_of_zero_le h0
  have : j < 2 ^ k := by exact_mod_cast h
  rw [Int.natAbs_natCast]
  by_cases z : j = 0
  · subst z; simpa using hk
  · exact (Nat.log2_lt z).mpr this
theorem divOk_of {j : Int} {k : Nat} (h0 : 0 < j) (h : j < 2 ^ k) (hk : k ≤ 9000) : divOk j = true := by
  unfold divOk
  rw [decide_eq_true h0, Bool.true_and]
  have hk0 : 0 < k := by
    rcases Nat.eq_zero_or_pos k with e | e
    · subst e
      have : j < 1 := by simpa using h
      omega
    · exact e
  have := log2_lt (by omega) h hk0
  exact decide_eq_true (by omega)
theorem powOk_of {i j : Int} {k : Nat} (h0 : 0 ≤ i) (h : i < 2 ^ k) (hk : k ≤ 1000) (hk0 : 0 < k) (j0 : 0 ≤ j) (j1 : j ≤ 1000) : powOk i j = true := by
  unfold powOk
  have := log2_lt h0 h hk0
  rw [decide_eq_true j0, decide_eq_true j1]
  exact decide_eq_true (by omega)
theorem mulOk_of {i j : Int} {k l : Nat} (h0 : 0 ≤ i) (h : i < 2 ^ k) (hk : 0 < k) (g0 : 0 ≤ j) (g : j < 2 ^ l) (hl : 0 < l) (hkl : k + l ≤ 1000000) : mulOk i j = true := by
  unfold mulOk
  have a1 := log2_lt h0 h hk
  have a2 := log2_lt g0 g hl
  exact decide_eq_true (by omega)
theorem small62_of {i : Int} (h0 : 0 ≤ i) (h1 : i < 2 ^ 62) : small62 i = true := by
  unfold small62
  rw [decide_eq_true h1, decide_eq_true (by omega)]
  rfl
theorem atI_of {α : Type} {xs : List α} {i : Int} (h0 : 0 ≤ i) (h : i.toNat < xs.length) : atI xs i = some xs[i.toNat] := by
  obtain ⟨j, rfl⟩ := Int.eq_ofNat_of_zero_le h0
  exact atI_nat (List.getElem?_eq_getElem h)
theorem blsOf_map {α : Type} {f : α → Bool} : ∀ l : List α, blsOf (l.map fun d => .bl (f d)) = some (l.map f)
  | [] => rfl
  | d :: l => by
    show (blsOf (l.map _)).map _ = _
    rw [blsOf_map l]
    rfl
theorem cut1 {α : Type} {l : List α} : cut l (some 1) none = l.tail := by
  unfold cut
  have e1 : HT.sIx l.length 0 (some 1) = min 1 l.length := by
    unfold HT.sIx
    simp
  have e2 : HT.sIx l.length l.length none = l.length := rfl
  rw [e1, e2]
  cases l with
  | nil => rfl
  | cons x r => simp
end CC
namespace CC
open PySem PySem.Spec PyProof.Rows L2
section
variable {k : Nat} {v : D} {S : Sto} {Q : D → Sto → Prop} {E : Nat → List D → Sto → Prop}
def isIB : D → Bool
  | .int _ => true
  | .bl _ => true
  | _ => false
def isBB : D → Bool
  | .bl _ => true
  | _ => false
def isSB : D → Bool
  | .str _ => true
  | _ => false
def isTB : D → Bool
  | .tup _ => true
  | _ => false
def isLB (v : D) (S : Sto) : Bool := match v with
  | .fl _ => true
  | .loc n => match S[n]? with
    | some (.lst _) => true
    | _ => false
  | _ => false
theorem isi_of {t b : String} (h : tyOfD v S = some t) (hk : knownTy b = true) : isinst v (.ty b) S = some (subTy t b) := by
  unfold isinst isT
  rw [h]
  simp [hk]
theorem isi_int (hv : (tyOfD v S).isSome = true) : isinst v (.ty "int") S = some (isIB v) := by
  obtain ⟨t, ht⟩ := Option.isSome_iff_exists.mp hv
  rw [isi_of ht (by decide +kernel)]
  cases v with
  | loc n =>
    have e : tyOfD (.loc n) S = match S[n]? with
      | some (.lst _) => some "list"
      | some (.dic _) => some "dict"
      | _ => none := rfl
    rw [e] at ht
    split at ht <;> cases ht <;> (first | (show _ = some true; decide +kernel) | (show _ = some false; decide +kernel))
  | _ => first | (cases ht; done) | (cases ht; first | (show _ = some true; decide +kernel) | (show _ = some false; decide +kernel))
theorem isi_bool (hv : (tyOfD v S).isSome = true) : isinst v (.ty "bool") S = some (isBB v) := by
  obtain ⟨t, ht⟩ := Option.isSome_iff_exists.mp hv
  rw [isi_of ht (by decide +kernel)]
  cases v with
  | loc n =>
    have e : tyOfD (.loc n) S = match S[n]? with
      | some (.lst _) => some "list"
      | some (.dic _) => some "dict"
      | _ => none := rfl
    rw [e] at ht
    split at ht <;> cases ht <;> (first | (show _ = some true; decide +kernel) | (show _ = some false; decide +kernel))
  | _ => first | (cases ht; done) | (cases ht; first | (show _ = some true; decide +kernel) | (show _ = some false; decide +kernel))
theorem isi_str (hv : (tyOfD v S).isSome = true) : isinst v (.ty "str") S = some (isSB v) := by
  obtain ⟨t, ht⟩ := Option.isSome_iff_exists.mp hv
  rw [isi_of ht (by decide +kernel)]
  cases v with
  | loc n =>
    have e : tyOfD (.loc n) S = match S[n]? with
      | some (.lst _) => some "list"
      | some (.dic _) => some "dict"
      | _ => none := rfl
    rw [e] at ht
    split at ht <;> cases ht <;> (first | (show _ = some true; decide +kernel) | (show _ = some false; decide +kernel))
  | _ => first | (cases ht; done) | (cases ht; first | (show _ = some true; decide +kernel) | (show _ = some false; decide +kernel))
theorem isi_tuple (hv : (tyOfD v S).isSome = true) : isinst v (.ty "tuple") S = some (isTB v) := by
  obtain ⟨t, ht⟩ := Option.isSome_iff_exists.mp hv
  rw [isi_of ht (by decide +kernel)]
  cases v with
  | loc n =>
    have e : tyOfD (.loc n) S = match S[n]? with
      | some (.lst _) => some "list"
      | some (.dic _) => some "dict"
      | _ => none := rfl
    rw [e] at ht
    split at ht <;> cases ht <;> (first | (show _ = some true; decide +kernel) | (show _ = some false; decide +kernel))
  | _ => first | (cases ht; done) | (cases ht; first | (show _ = some true; decide +kernel) | (show _ = some false; decide +kernel))
theorem isi_list (hv : (tyOfD v S).isSome = true) : isinst v (.ty "list") S = some (isLB v S) := by
  obtain ⟨t, ht⟩ := Option.isSome_iff_exists.mp hv
  rw [isi_of ht (by decide +kernel)]
  cases v with
  | loc n =>
    have e : tyOfD (.loc n) S = match S[n]? with
      | some (.lst _) => some "list"
      | some (.dic _) => some "dict"
      | _ => none := rfl
    have e2 : isLB (.loc n) S = match S[n]? with
      | some (.lst _) => true
      | _ => false := rfl
    rw [e] at ht
    rw [e2]
    split at ht <;> rename_i q <;> cases ht <;> rw [q] <;> (first | (show _ = some true; decide +kernel) | (show _ = some false; decide +kernel))
  | _ => first | (cases ht; done) | (cases ht; first | (show _ = some true; decide +kernel) | (show _ = some false; decide +kernel))
def Nice : Nat → D → Sto → Prop
  | 0, _, _ => True
  | n + 1, v, S => (tyOfD v S).isSome = true ∧ ∀ ds, v = .tup ds → ds.length ≤ sizeLine ∧ ∀ d ∈ ds, Nice n d S
theorem Nice.le {S : Sto} : ∀ {n m : Nat} {v : D}, Nice n v S → m ≤ n → Nice m v S
  | _, 0, _, _, _ => trivial
  | 0, m + 1, _, _, h => absurd h (by omega)
  | n + 1, m + 1, v, ⟨h1, h2⟩, h => ⟨h1, fun ds e => ⟨(h2 ds e).1, fun d hd => ((h2 ds e).2 d hd).le (by omega)⟩⟩
def isIntD (v : D) (low : Int) : Bool := match v with
  | .int i => decide (low ≤ i)
  | _ => false
def isRunD (a b : Str) (v : D) : Bool := match v with
  | .tup [.str d, c] => (d == a || d == b) && isIntD c 1
  | _ => false
theorem isRunD_len {a b : Str} {ds : List D} (h : ds.length ≠ 2) : isRunD a b (.tup ds) = false := by
  unfold isRunD
  split
  · rename_i e
    cases e
    exact absurd rfl h
  · rfl
theorem inSeq2 {d a b : Str} : inSeq (.str d) [.str a, .str b] = some (d == a || d == b) := by
  have h1 : (a == d) = (d == a) := by rw [Bool.eq_iff_iff, beq_iff_eq, beq_iff_eq]; exact eq_comm
  have h2 : (b == d) = (d == b) := by rw [Bool.eq_iff_iff, beq_iff_eq, beq_iff_eq]; exact eq_comm
  rw [← h1, ← h2]
  simp [inSeq, flatD, feq]
def fstS : D → Str
  | .tup (.str a :: _) => a
  | _ => ""
def areRunsD (a b : Str) (v : D) : Bool := match v with
  | .tup l => !l.isEmpty && l.all (isRunD a b) && (l.zip l.tail).all fun p => fstS p.1 != fstS p.2
  | _ => false
theorem isRunD_str {a b : Str} {v : D} (h : isRunD a b v = true) : ∃ d c, v = .tup [.str d, c] ∧ fstS v = d := by
  unfold isRunD at h
  split at h
  · exact ⟨_, _, rfl, rfl⟩
  · cases h
theorem zipRuns {a b : Str} {l : List D} (hr : l.all (isRunD a b) = true) {p : D × D} (hp : p ∈ l.zip l.tail) : isRunD a b p.1 = true ∧ isRunD a b p.2 = true := by
  obtain ⟨h1, h2⟩ := List.of_mem_zip (a := p.1) (b := p.2) hp
  exact ⟨List.all_eq_true.mp hr _ h1, List.all_eq_true.mp hr _ (List.mem_of_mem_tail h2)⟩
abbrev Runs := List (Str × Int)
def encP (p : Str × Int) : D := .tup [.str p.1, .int p.2]
def encR (l : Runs) : D := .tup (l.map encP)
def encC (a b : Runs) : D := .tup [encR a, encR b]
def total (l : Runs) : Int := (l.map (·.2)).sum
def ascR (l : Runs) : Bool := (l.zip l.tail).all fun p => p.1.1 != p.2.1
def okR (a b : Str) (l : Runs) : Bool := !l.isEmpty && l.all (fun p => (p.1 == a || p.1 == b) && decide (1 ≤ p.2)) && ascR l
theorem areRuns_enc {a b : Str} {l : Runs} : areRunsD a b (encR l) = okR a b l := by
  unfold encR areRunsD okR ascR
  simp only [List.isEmpty_map, List.all_map]
  congr 1
  rw [← List.map_tail, List.zip_map, List.all_map]
  rfl
def isCityD (v : D) : Bool := match v with
  | .tup [x, y] => areRunsD "E" "W" x && areRunsD "N" "S" y
  | _ => false
theorem isCityD_len {ds : List D} (h : ds.length ≠ 2) : isCityD (.tup ds) = false := by
  unfold isCityD
  split
  · rename_i e
    cases e
    exact absurd rfl h
  · rfl
theorem two_of {ds : List D} (h : ((ds.length : Nat) : Int) = 2) : ∃ x y, ds = [x, y] := by
  match ds, h with
  | [x, y], _ => exact ⟨x, y, rfl⟩
  | [], h => simp at h
  | [_], h => simp at h
  | _ :: _ :: _ :: r, h => simp only [List.length_cons] at h; omega
structure Town (a b : Runs) : Prop where
  oa : okR "E" "W" a = true
  ob : okR "N" "S" b = true
  la : a.length ≤ sizeLine
  lb : b.length ≤ sizeLine
theorem nice_encP {p : Str × Int} : Nice 2 (encP p) S := ⟨rfl, fun ds e => by
  cases e
  refine ⟨by simp [sizeLine], fun d hd => ?_⟩
  simp at hd
  rcases hd with rfl | rfl
  · exact ⟨rfl, fun _ e => nomatch e⟩
  · exact ⟨rfl, fun _ e => nomatch e⟩⟩
theorem nice_encR {l : Runs} (h : l.length ≤ sizeLine) : Nice 3 (encR l) S := ⟨rfl, fun ds e => by
  cases e
  refine ⟨by simpa using h, fun d hd => ?_⟩
  obtain ⟨p, _, rfl⟩ := List.mem_map.mp hd
  exact nice_encP⟩
theorem Town.nice {a b : Runs} (t : Town a b) : Nice 4 (encC a b) S := ⟨rfl, fun ds e => by
  cases e
  refine ⟨by simp [sizeLine], fun d hd => ?_⟩
  simp at hd
  rcases hd with rfl | rfl
  · exact nice_encR t.la
  · exact nice_encR t.lb⟩
theorem Town.city {a b : Runs} (t : Town a b) : isCityD (encC a b) = true := by
  show (areRunsD "E" "W" (encR a) && areRunsD "N" "S" (encR b)) = true
  rw [areRuns_enc, areRuns_enc, t.oa, t.ob]
  rfl
def encPt (p : Int × Int) : D := .tup [.int p.1, .int p.2]
def cl : Nat → D → Bool
  | _, .non => true
  | _, .int _ => true
  | _, .str x => PyData.strOk x
  | n + 1, .tup ds => ds.all (cl n)
  | n + 1, .fl ds => ds.all (cl n)
  | _, _ => false
def pd : Nat → D → PyData
  | _, .int i => .int i
  | _, .str x => .str x
  | n + 1, .tup ds => .tuple (ds.map (pd n))
  | n + 1, .fl ds => .list (ds.map (pd n))
  | _, _ => .none
theorem mapM_some {α β γ : Type} {g : β → Option γ} {f : α → β} {h : α → γ} : ∀ {l : List α}, (∀ x ∈ l, g (f x) = some (h x)) → (l.map f).mapM g = some (l.map h)
  | [], _ => rfl
  | x :: l, H => by
    rw [List.map_cons, List.mapM_cons, H x List.mem_cons_self, mapM_some fun y hy => H y (List.mem_cons_of_mem _ hy)]
    rfl
theorem mapM_some' {β γ : Type} {g : β → Option γ} {h : β → γ} {l : List β} (H : ∀ x ∈ l, g x = some (h x)) : l.mapM g = some (l.map h) := by
  have := mapM_some (f := id) (l := l) H
  simpa using this
theorem cl_P : ∀ {n m : Nat} {v : D}, cl n v = true → n ≤ m → toP S m v = some (pd n v)
  | n, m, .non, _, _ => by cases n <;> cases m <;> rfl
  | n, m, .int _, _, _ => by cases n <;> cases m <;> rfl
  | n, m, .str _, _, _ => by cases n <;> cases m <;> rfl
  | n, m, .bl _, h, _ => by cases n <;> cases h
  | n, m, .loc _, h, _ => by cases n <;> cases h
  | n, m, .ty _, h, _ => by cases n <;> cases h
  | n, m, .fn _, h, _ => by cases n <;> cases h
  | n, m, .exn _ _, h, _ => by cases n <;> cases h
  | n, m, .cls _, h, _ => by cases n <;> cases h
  | n, m, .fd _ _, h, _ => by cases n <;> cases h
  | n, m, .fm _ _, h, _ => by cases n <;> cases h
  | n, m, .bd _, h, _ => by cases n <;> cases h
  | 0, m, .tup _, h, _ => by cases h
  | 0, m, .fl _, h, _ => by cases h
  | n + 1, 0, .tup _, _, hm => absurd hm (by omega)
  | n + 1, 0, .fl _, _, hm => absurd hm (by omega)
  | n + 1, m + 1, .tup ds, h, hm => by
    have h' : ds.all (cl n) = true := h
    show (ds.mapM (toP S m)).map PyData.tuple = some (.tuple (ds.map (pd n)))
    rw [mapM_some' fun d hd => cl_P (List.all_eq_true.mp h' d hd) (by omega)]
    rfl
  | n + 1, m + 1, .fl ds, h, hm => by
    have h' : ds.all (cl n) = true := h
    show (ds.mapM (toP S m)).map PyData.list = some (.list (ds.map (pd n)))
    rw [mapM_some' fun d hd => cl_P (List.all_eq_true.mp h' d hd) (by omega)]
    rfl
theorem clL_lay (n : Nat) (ih : ∀ v, cl n v = true → (pd n v).canLay0 = true ∧ (pd n v).depth ≤ n) : ∀ {ds : List D}, (∀ d ∈ ds, cl n d = true) → PyData.canLayAll0 (ds.map (pd n)) = true ∧ PyData.depthAll (ds.map (pd n)) ≤ n
  | [], _ => ⟨rfl, Nat.zero_le _⟩
  | d :: ds, h => by
    obtain ⟨h1, h2⟩ := ih d (h d List.mem_cons_self)
    obtain ⟨h3, h4⟩ := clL_lay n ih fun e he => h e (List.mem_cons_of_mem _ he)
    refine ⟨?_, ?_⟩
    · rw [List.map_cons, PyData.canLayAll0, h1, h3]
      rfl
    · rw [List.map_cons, PyData.depthAll]
      omega
theorem cl_lay : ∀ (n : Nat) (v : D), cl n v = true → (pd n v).canLay0 = true ∧ (pd n v).depth ≤ n
  | n, .non, _ => by cases n <;> exact ⟨rfl, Nat.zero_le _⟩
  | n, .int _, _ => by cases n <;> exact ⟨rfl, Nat.zero_le _⟩
  | n, .str x, h => by
    have e : PyData.strOk x = true := by cases n <;> exact h
    cases n <;> exact ⟨e, Nat.zero_le _⟩
  | n, .bl _, h => by cases n <;> cases h
  | n, .loc _, h => by cases n <;> cases h
  | n, .ty _, h => by cases n <;> cases h
  | n, .fn _, h => by cases n <;> cases h
  | n, .exn _ _, h => by cases n <;> cases h
  | n, .cls _, h => by cases n <;> cases h
  | n, .fd _ _, h => by cases n <;> cases h
  | n, .fm _ _, h => by cases n <;> cases h
  | n, .bd _, h => by cases n <;> cases h
  | 0, .tup _, h => by cases h
  | 0, .fl _, h => by cases h
  | n + 1, .tup ds, h => by
    have h' : ds.all (cl n) = true := h
    obtain ⟨h1, h2⟩ := clL_lay n (cl_lay n) (ds := ds) fun d hd => List.all_eq_true.mp h' d hd
    exact ⟨h1, by show PyData.depth (.tuple (ds.map (pd n))) ≤ n + 1; rw [PyData.depth]; omega⟩
  | n + 1, .fl ds, h => by
    have h' : ds.all (cl n) = true := h
    obtain ⟨h1, h2⟩ := clL_lay n (cl_lay n) (ds := ds) fun d hd => List.all_eq_true.mp h' d hd
    exact ⟨h1, by show PyData.depth (.list (ds.map (pd n))) ≤ n + 1; rw [PyData.depth]; omega⟩
theorem cl_shaped {n : Nat} {v : D} (h : cl n v = true) (hn : n ≤ 64) : SeqAt.shaped (pd n v) = true := by
  obtain ⟨h1, h2⟩ := cl_lay n v h
  unfold SeqAt.shaped
  rw [h1]
  exact decide_eq_true (by omega)
theorem clL_eq (n m : Nat) (ih : ∀ x y, cl n x = true → cl m y = true → (PyData.eqv (pd n x) (pd m y) = true ↔ x = y)) : ∀ {a b : List D}, (∀ d ∈ a, cl n d = true) → (∀ d ∈ b, cl m d = true) → (PyData.eqvAll (a.map (pd n)) (b.map (pd m)) = true ↔ a = b)
  | [], [], _, _ => by simp [PyData.eqvAll]
  | [], _ :: _, _, _ => by simp [PyData.eqvAll]
  | _ :: _, [], _, _ => by simp [PyData.eqvAll]
  | x :: a, y :: b, h1, h2 => by
    have i1 := ih x y (h1 x List.mem_cons_self) (h2 y List.mem_cons_self)
    have i2 := clL_eq n m ih (a := a) (b := b) (fun e he => h1 e (List.mem_cons_of_mem _ he)) (fun e he => h2 e (List.mem_cons_of_mem _ he))
    rw [List.map_cons, List.map_cons, PyData.eqvAll, Bool.and_eq_true, i1, i2, List.cons.injEq]
theorem cl_eq : ∀ (n m : Nat) (x y : D), cl n x = true → cl m y = true → (PyData.eqv (pd n x) (pd m y) = true ↔ x = y)
  | 0, m, x, y, h1, h2 => by
    cases x <;> first | (cases h1; done) | skip
    all_goals (cases m <;> cases y <;> first | (cases h2; done) | simp [pd, PyData.eqv])
  | n + 1, 0, x, y, h1, h2 => by
    cases y <;> first | (cases h2; done) | skip
    all_goals (cases x <;> first | (cases h1; done) | simp [pd, PyData.eqv])
  | n + 1, m + 1, x, y, h1, h2 => by
    cases x with
    | tup a =>
      cases y with
      | tup b =>
        have h1' : a.all (cl n) = true := h1
        have h2' : b.all (cl m) = true := h2
        show PyData.eqvAll _ _ = true ↔ _
        rw [clL_eq n m (cl_eq n m) (fun d hd => List.all_eq_true.mp h1' d hd) (fun d hd => List.all_eq_true.mp h2' d hd)]
        simp
      | _ => first | (cases h2; done) | simp [pd, PyData.eqv]
    | fl a =>
      cases y with
      | fl b =>
        have h1' : a.all (cl n) = true := h1
        have h2' : b.all (cl m) = true := h2
        show PyData.eqvAll _ _ = true ↔ _
        rw [clL_eq n m (cl_eq n m) (fun d hd => List.all_eq_true.mp h1' d hd) (fun d hd => List.all_eq_true.mp h2' d hd)]
        simp
      | _ => first | (cases h2; done) | simp [pd, PyData.eqv]
    | _ => first | (cases h1; done) | (cases y <;> first | (cases h2; done) | simp [pd, PyData.eqv])
theorem eqD_cl {n m : Nat} {x y : D} {b : Bool} (hx : cl n x = true) (hy : cl m y = true) (hn : n ≤ 50) (hm : m ≤ 50) (hb : b = true ↔ x = y) : eqD x y S = some b := by
  unfold eqD
  rw [cl_P hx hn, cl_P hy hm]
  show (if SeqAt.shaped (pd n x) && SeqAt.shaped (pd m y) then some (PyData.eqv (pd n x) (pd m y)) else none) = _
  rw [cl_shaped hx (by omega), cl_shaped hy (by omega)]
  show some _ = some b
  congr 1
  rw [Bool.eq_iff_iff, hb]
  exact cl_eq n m x y hx hy
theorem qEq_cl {n m : Nat} {x y : D} {b : Bool} (hx : cl n x = true) (hy : cl m y = true) (hn : n ≤ 50) (hm : m ≤ 50) (hb : b = true ↔ x = y) : qEq x y S = some b := by
  have e := eqD_cl (S := S) hx hy hn hm hb
  unfold qEq
  split
  · congr 1
    rw [Bool.eq_iff_iff, hb]
    simp
  · congr 1
    rw [Bool.eq_iff_iff, hb]
    simp
  · rw [e]
theorem eq_cl {n m : Nat} {x y : D} {b : Bool} (hx : cl n x = true) (hy : cl m y = true) (hn : n ≤ 50) (hm : m ≤ 50) (hb : b = true ↔ x = y) : cmpD .Eq x y S = some b := qEq_cl hx hy hn hm hb
theorem ne_cl {n m : Nat} {x y : D} {b : Bool} (hx : cl n x = true) (hy : cl m y = true) (hn : n ≤ 50) (hm : m ≤ 50) (hb : b = true ↔ x ≠ y) : cmpD .NotEq x y S = some b := by
  show (qEq x y S).map _ = _
  rw [qEq_cl (b := !b) hx hy hn hm (by rw [Bool.not_eq_true', ← Bool.not_eq_true, hb]; simp)]
  simp
theorem inDeep_cl {n m : Nat} {x y : D} {l : List D} {b : Bool} (hx : cl n x = true) (hy : ∀ S, toP S 50 y = toP S 50 (.fl l)) (hl : ∀ d ∈ l, cl m d = true) (hn : n ≤ 50) (hm : m < 50) (hb : b = true ↔ x ∈ l) : inDeep x y S = some b := by
  have hy' : cl (m + 1) (.fl l) = true := List.all_eq_true.mpr hl
  unfold inDeep
  rw [cl_P hx hn, hy S, cl_P hy' (by omega)]
  show (if SeqAt.shaped (pd n x) && SeqAt.shaped (pd (m + 1) (.fl l)) then some ((l.map (pd m)).any fun z => PyData.eqv z (pd n x)) else none) = _
  rw [cl_shaped hx (by omega), cl_shaped hy' (by omega)]
  show some _ = some b
  congr 1
  rw [Bool.eq_iff_iff, hb, List.any_map, List.any_eq_true]
  constructor
  · rintro ⟨d, hd, e⟩
    have := (cl_eq m n d x (hl d hd) hx).mp e
    rw [← this]
    exact hd
  · intro h
    exact ⟨x, h, (cl_eq m n x x (hl x h) hx).mpr rfl⟩
theorem in_cl {n m : Nat} {x : D} {l : List D} {b : Bool} (hx : cl n x = true) (hl : ∀ d ∈ l, cl m d = true) (hn : n ≤ 50) (hm : m < 50) (hb : b = true ↔ x ∈ l) : inD x (.fl l) S = some b :=
  inDeep_cl hx (fun _ => rfl) hl hn hm hb
theorem in_loc {n m q : Nat} {x : D} {l : List D} {b : Bool} (hq : S[q]? = some (.lst l)) (hx : cl n x = true) (hl : ∀ d ∈ l, cl m d = true) (hn : n ≤ 50) (hm : m < 50) (hb : b = true ↔ x ∈ l) : inD x (.loc q) S = some b := by
  show (match dicAt S q with
    | some kvs => (kD x).map fun k => (valA kvs k).isSome
    | none => match dnAt S q with
      | some kvs => (kT x).map fun k => (valA kvs k).isSome
      | none => inDeep x (.loc q) S) = _
  have e : dicAt S q = none := by unfold dicAt; rw [hq]
  have e' : dnAt S q = none := by unfold dnAt; rw [hq]
  rw [e, e']
  have hy' : cl (m + 1) (.fl l) = true := List.all_eq_true.mpr hl
  show inDeep x (.loc q) S = _
  unfold inDeep
  have e2 : toP S 50 (.loc q) = toP S 50 (.fl l) := by
    show (lstAt S q).bind _ = _
    rw [lst_at hq]
    rfl
  rw [e2]
  exact inDeep_cl (y := .fl l) hx (fun _ => rfl) hl hn hm hb
variable {P : Sto → Prop}
def Rw (P : Sto → Prop) (n w : Nat) (v : D) : Prop := ∃ p : PyData, (∀ (S : Sto) (m : Nat), P S → n ≤ m → toQ S m v = some p) ∧ p.showable = true ∧ dic0 p = true ∧ p.depth ≤ n ∧ shB p ≤ w
theorem Rw.le {n m w x : Nat} (h : Rw P n w v) (hn : n ≤ m) (hw : w ≤ x) : Rw P m x v := by
  obtain ⟨p, h1, h2, h3, h4, h5⟩ := h
  exact ⟨p, fun S j hS hj => h1 S j hS (by omega), h2, h3, by omega, by omega⟩
theorem Rw_int {n w : Nat} {i : Int} (hi : i.natAbs.log2 < 1900) (hw : i.natAbs.log2 + 3 ≤ w) : Rw P n w (.int i) := ⟨.int i, fun S m _ _ => by cases m <;> rfl, decide_eq_true (by omega), rfl, Nat.zero_le _, hw⟩
theorem Rw_str {n w : Nat} {x : Str} (hw : (reprText x).length ≤ w) : Rw P n w (.str x) := ⟨.str x, fun S m _ _ => by cases m <;> rfl, rfl, rfl, Nat.zero_le _, hw⟩
theorem RwL {n w : Nat} : ∀ {ds : List D}, (∀ d ∈ ds, Rw P n w d) → ∃ ps : List PyData, (∀ (S : Sto) (m : Nat), P S → n ≤ m → ds.mapM (toQ S m) = some ps) ∧ PyData.showableAll ps = true ∧ dic0s ps = true ∧ PyData.depthAll ps ≤ n ∧ shBs ps ≤ ds.length * (w + 2)
  | [], _ => ⟨[], fun _ _ _ _ => by rw [List.mapM_nil]; rfl, rfl, rfl, Nat.zero_le _, by simp [shBs]⟩
  | d :: ds, h => by
    obtain ⟨p, p1, p2, p3, p4, p5⟩ := h d List.mem_cons_self
    obtain ⟨ps, q1, q2, q3, q4, q5⟩ := RwL fun e he => h e (List.mem_cons_of_mem _ he)
    refine ⟨p :: ps, fun S m hS hm => ?_, by simp only [PyData.showableAll, p2, q2, Bool.and_self], by simp only [dic0s, p3, q3, Bool.and_self], by simp only [PyData.depthAll]; omega, ?_⟩
    · rw [List.mapM_cons, p1 S m hS hm, q1 S m hS hm]
      rfl
    · simp only [shBs, List.length_cons, Nat.add_mul]
      omega
theorem Rw_tup {n w x : Nat} {ds : List D} (h : ∀ d ∈ ds, Rw P n w d) (hx : ds.length * (w + 2) + 3 ≤ x) : Rw P (n + 1) x (.tup ds) := by
  obtain ⟨ps, q1, q2, q3, q4, q5⟩ := RwL h
  refine ⟨.tuple ps, fun S m hS hm => ?_, by simpa only [PyData.showable] using q2, by simpa only [dic0] using q3, by simp only [PyData.depth]; omega, by simp only [shB]; omega⟩
  cases m with
  | zero => omega
  | succ m =>
    show (ds.mapM (toQ S m)).map PyData.tuple = _
    rw [q1 S m hS (by omega)]
    rfl
theorem Rw_fl {n w x : Nat} {ds : List D} (h : ∀ d ∈ ds, Rw P n w d) (hx : ds.length * (w + 2) + 3 ≤ x) : Rw P (n + 1) x (.fl ds) := by
  obtain ⟨ps, q1, q2, q3, q4, q5⟩ := RwL h
  refine ⟨.list ps, fun S m hS hm => ?_, by simpa only [PyData.showable] using q2, by simpa only [dic0] using q3, by simp only [PyData.depth]; omega, by simp only [shB]; omega⟩
  cases m with
  | zero => omega
  | succ m =>
    show (ds.mapM (toQ S m)).map PyData.list = _
    rw [q1 S m hS (by omega)]
    rfl
theorem Rw_loc {n w x m : Nat} {ds : List D} (hm : ∀ S, P S → lstAt S m = some ds) (h : ∀ d ∈ ds, Rw P n w d) (hx : ds.length * (w + 2) + 3 ≤ x) : Rw P (n + 1) x (.loc m) := by
  obtain ⟨ps, q1, q2, q3, q4, q5⟩ := RwL h
  refine ⟨.list ps, fun S j hS hj => ?_, by simpa only [PyData.showable] using q2, by simpa only [dic0] using q3, by simp only [PyData.depth]; omega, by simp only [shB]; omega⟩
  cases j with
  | zero => omega
  | succ j =>
    show (match lstAt S m with
      | some ds => (ds.mapM (toQ S j)).map PyData.list
      | none => match dicAt S m with
        | some [] => some (.dict [])
        | _ => none) = _
    rw [hm S hS]
    simp only [q1 S j hS (by omega)]
    rfl
theorem Rw.rep {n w : Nat} (h : Rw P n w v) (hn : n ≤ 50) (hw : w ≤ sizeLine) : ∃ t : Str, ∀ S, P S → repD v S = some (.str t) := by
  obtain ⟨p, h1, h2, h3, h4, h5⟩ := h
  refine ⟨p.shown, fun S hS => ?_⟩
  unfold repD
  rw [h1 S 50 hS hn]
  show (if repOk p = true then _ else _) = _
  rw [if_pos]
  unfold repOk
  simp only [h2, h3, Bool.and_self, Bool.true_and, Bool.and_eq_true, decide_eq_true_eq]
  exact ⟨by omega, by omega⟩
theorem ascR_cons {x y : Str × Int} {l : Runs} : ascR (x :: y :: l) = (x.1 != y.1 && ascR (y :: l)) := by
  simp [ascR]
def AltR (a b : Str) (s : Int) (l : Runs) : Prop := ∀ j p, l[j]? = some p → p.1 = if (s + (j : Nat)) % 2 = 0 then a else b
def BndR (B : Int) (l : Runs) : Prop := ∀ p ∈ l, 1 ≤ p.2 ∧ p.2 ≤ B
theorem BndR.add {B : Int} {l : Runs} {p : Str × Int} (h : BndR B l) (h1 : 1 ≤ p.2) (h2 : p.2 ≤ B) : BndR B (l ++ [p]) := by
  intro q hq
  rcases List.mem_append.mp hq with z | z
  · exact h q z
  · rw [List.mem_singleton.mp z]
    exact ⟨h1, h2⟩
theorem AltR.add {a b : Str} {s : Int} {l : Runs} {p : Str × Int} (h : AltR a b s l) (e : p.1 = if (s + (l.length : Nat)) % 2 = 0 then a else b) : AltR a b s (l ++ [p]) := by
  intro j q hq
  by_cases hj : j < l.length
  · rw [List.getElem?_append_left hj] at hq
    exact h j q hq
  · rw [List.getElem?_append_right (by omega)] at hq
    have : j = l.length := by
      have := (List.getElem?_eq_some_iff.mp hq).1
      simp at this
      omega
    subst this
    simp at hq
    subst hq
    exact e
theorem ascR_alt {a b : Str} (hab : a ≠ b) : ∀ {l : Runs} {s : Int}, AltR a b s l → ascR l = true
  | [], _, _ => rfl
  | [_], _, _ => rfl
  | x :: y :: l, s, h => by
    rw [ascR_cons]
    have h0 := h 0 x rfl
    have h1 := h 1 y rfl
    have h2 : ascR (y :: l) = true := ascR_alt hab (s := s + 1) fun j p e => by
      have := h (j + 1) p e
      rw [this]
      have e2 : s + ((j + 1 : Nat) : Int) = s + 1 + (j : Nat) := by omega
      rw [e2]
    rw [h2, Bool.and_true, bne_iff_ne, h0, h1]
    split <;> split
    · omega
    · exact hab
    · exact hab.symm
    · omega
structure TownB (a b : Runs) : Prop where
  oa : okR "E" "W" a = true
  ob : okR "N" "S" b = true
  la : a.length ≤ 20
  lb : b.length ≤ 20
  ba : BndR (10 ^ 30) a
  bb : BndR (10 ^ 30) b
theorem TownB.town {a b : Runs} (t : TownB a b) : Town a b := ⟨t.oa, t.ob, by have := t.la; unfold sizeLine; omega, by have := t.lb; unfold sizeLine; omega⟩
theorem okR_mem {a b : Str} {l : Runs} (h : okR a b l = true) {p : Str × Int} (hp : p ∈ l) : (p.1 = a ∨ p.1 = b) ∧ 1 ≤ p.2 := by
  unfold okR at h
  simp only [Bool.and_eq_true] at h
  have := List.all_eq_true.mp h.1.2 p hp
  simpa using this
def letter (x : Str) : Prop := x = "E" ∨ x = "W" ∨ x = "N" ∨ x = "S"
def signL : Runs → Int → Str
  | [], _ => ""
  | (d, c) :: r, n => if n < c then d else signL r (n - c)
theorem toP_lst {x : D} {ds : List D} (h : lstD S x = some ds) {n : Nat} : toP S (n + 1) x = (ds.mapM (toP S n)).map .list := by
  cases x with
  | loc m =>
    have h' : lstAt S m = some ds := h
    show (lstAt S m).bind _ = _
    rw [h']
    rfl
  | fl l => cases h; rfl
  | _ => cases h
theorem eq_nil {x : D} {ds : List D} (h : lstD S x = some ds) : cmpD .Eq x (.fl []) S = some ds.isEmpty := by
  show qEq x (.fl []) S = _
  have hn : lenNe x (.fl []) S = if ds.length = 0 then none else some false := by
    show (lstD S x).bind _ = _
    rw [h]
    rfl
  have e2 : toP S 50 (.fl []) = some (.list []) := rfl
  have e : eqD x (.fl []) S = some ds.isEmpty ∨ (eqD x (.fl []) S = none ∧ ds ≠ []) := by
    unfold eqD
    rw [e2, toP_lst h]
    cases ds with
    | nil => left; rfl
    | cons d l =>
      cases q : (d :: l).mapM (toP S 49) with
      | none => right; exact ⟨rfl, by simp⟩
      | some ps =>
        have hne : ps ≠ [] := by
          intro z
          subst z
          rw [List.mapM_cons] at q
          cases q1 : toP S 49 d with
          | none => rw [q1] at q; cases q
          | some p =>
            rw [q1] at q
            cases q2 : l.mapM (toP S 49) with
            | none => rw [q2] at q; cases q
            | some r => rw [q2] at q; cases q
        show (if SeqAt.shaped (.list ps) && SeqAt.shaped (.list []) then some (PyData.eqv (.list ps) (.list [])) else none) = _ ∨ (if SeqAt.shaped (.list ps) && SeqAt.shaped (.list []) then some (PyData.eqv (.list ps) (.list [])) else none) = _ ∧ _
        by_cases c : (SeqAt.shaped (.list ps) && SeqAt.shaped (.list [])) = true
        · left
          rw [if_pos c]
          cases ps with
          | nil => exact absurd rfl hne
          | cons p ps => rfl
        · right
          rw [if_neg c]
          exact ⟨rfl, by simp⟩
  have u : qEq x (.fl []) S = match eqD x (.fl []) S with
    | some b => some b
    | none => lenNe x (.fl []) S := by
    unfold qEq
    cases x <;> first | rfl | (cases h; done)
  rw [u]
  rcases e with e | ⟨e, ne⟩
  · rw [e]
  · rw [e, hn]
    cases ds with
    | nil => exact absurd rfl ne
    | cons d l => rfl
theorem isLB_of {x : D} (h : (lstM S x).isSome = true) : isLB x S = true := by
  cases x with
  | loc n =>
    have h' : (match S[n]? with
      | some (.lst ds) => some ds
      | _ => none).isSome = true := h
    show (match S[n]? with
      | some (.lst _) => true
      | _ => false) = true
    split at h'
    · rfl
    · cases h'
  | fl _ => rfl
  | _ => cases h
theorem lstD_M {x : D} {ds : List D} (h : lstM S x = some ds) : lstD S x = some ds := by
  cases x with
  | loc n =>
    have h' : (match S[n]? with
      | some (.lst ds) => some ds
      | _ => none) = some ds := h
    split at h'
    · rename_i q; cases h'; exact lst_at q
    · cases h'
  | fl _ => exact h
  | _ => cases h
theorem ix_of {x : D} {ds : List D} (h : lstD S x = some ds) {i : Int} : ixD x (.int i) S = atI ds i := by
  cases x with
  | loc n =>
    have h' : lstAt S n = some ds := h
    rw [x_loc, h']
    rfl
  | fl _ => cases h; rfl
  | _ => cases h
theorem so_of {x : D} {ds : List D} (h : lstD S x = some ds) {f : Src → Prop} (g : ∀ src, Walk src S ds → f src) : optP (srcOf x S) f := by
  cases x with
  | loc n =>
    have h' : lstAt S n = some ds := h
    show optP ((lstAt S n).map fun _ => Src.lst n) f
    rw [h']
    exact g _ (walk_lst h')
  | fl _ => cases h; exact g _ walk_ds
  | _ => cases h
theorem okR_alt {a b : Str} {t : Int} {B : Int} {l : Runs} (hab : a ≠ b) (ne : 0 < l.length) (ha : AltR a b t l) (hb : BndR B l) : okR a b l = true := by
  unfold okR
  rw [ascR_alt hab ha, Bool.and_true, Bool.and_eq_true]
  refine ⟨by cases l <;> simp_all, ?_⟩
  rw [List.all_eq_true]
  intro p hp
  obtain ⟨j, hj⟩ := List.getElem?_of_mem hp
  have e := ha j p hj
  have h1 := (hb p hp).1
  rw [e]
  split <;> simp [h1]
@[simp] theorem c_eqB {a b : Bool} : cmpD .Eq (.bl a) (.bl b) S = some (a == b) := by cases a <;> cases b <;> rfl
@[simp] theorem c_neB {a b : Bool} : cmpD .NotEq (.bl a) (.bl b) S = some (a != b) := by cases a <;> cases b <;> rfl
def BagOk (b : SO) (c : Int) : Prop := ∃ a m t : Int, b = .lst [.int a, .int m, .int t] ∧ 0 ≤ a ∧ 0 ≤ m ∧ m < 2 ^ 140 ∧ 0 ≤ t ∧ t ≤ c
theorem BagOk.le {b : SO} {c d : Int} (h : BagOk b c) (x : c ≤ d) : BagOk b d := by
  obtain ⟨a, m, t, h1, h2, h3, h4, h5, h6⟩ := h
  exact ⟨a, m, t, h1, h2, h3, h4, h5, by omega⟩
theorem BagOk.ltS {b : SO} {c : Int} {j : Nat} (h : BagOk b c) : b.lt j = true := by
  obtain ⟨a, m, t, rfl, _⟩ := h
  simp
@[simp] theorem ofS_inj {a b : String} : (Str.ofString a = Str.ofString b) = (a = b) := by
  apply propext
  constructor
  · intro h
    have h1 : a.toList.map Char.toNat = b.toList.map Char.toNat := by
      have := congrArg (fun x : Str => x.cps.toList) h
      simpa [Str.ofString_eq_toList] using this
    have inj : ∀ (l r : List Char), l.map Char.toNat = r.map Char.toNat → l = r := by
      intro l
      induction l with
      | nil => intro r h; cases r with
        | nil => rfl
        | cons _ _ => cases h
      | cons c l ih =>
        intro r h
        cases r with
        | nil => cases h
        | cons d r =>
          simp only [List.map_cons, List.cons.injEq] at h
          rw [ih r h.2, Char.toNat_inj.mp h.1]
    exact String.toList_inj.mp (inj _ _ h1)
  · intro h
    rw [h]
@[simp] theorem ofS_beq {a b : String} : (Str.ofString a == Str.ofString b) = (a == b) := by
  rw [Bool.eq_iff_iff]
  simp
theorem cf_run {W : Nat} {G : Nat → Option D} {T : Nat → Option Fd} {f : Nat} {fd : Fd} {ds : List D} (hT : T f = some fd) (hl : ds.length = fd.np) :
    WR (callF W G T (k + 1) f ds S) Q E = Ws (run W (callF W G T k) G fd.body (startE fd.n ds) S) { nx := fun _ S' => Q .non (cutS S true S'), rt := fun d S' => Q d (cutS S (d.lt S.length) S'), bk := fun _ _ => False, ct := fun _ _ => False, ex := fun c q _ S' => E c q (cutS S (ltL S.length q) S') } := by
  show WR (match T f with
    | some fd => if ds.length = fd.np then trim S (endR (run W (callF W G T k) G fd.body (startE fd.n ds) S)) else .bad
    | none => .bad) Q E = _
  rw [hT]
  show WR (if ds.length = fd.np then _ else _) Q E = _
  rw [if_pos hl, wp_trim, w_end]
  simp only [lt_non]
theorem ite2 {p a b : Prop} [Decidable p] (h1 : p → a) (h2 : ¬ p → b) : if p then a else b := by
  by_cases h : p
  · rw [if_pos h]; exact h1 h
  · rw [if_neg h]; exact h2 h
theorem WR_eq {r : R D} {d : D} (h : ∀ {Q : D → Sto → Prop} {E : Nat → List D → Sto → Prop}, Q d S → WR r Q E) {Q : D → Sto → Prop} {E : Nat → List D → Sto → Prop} : WR r Q E = Q d S := by
  have h0 := h (Q := fun x T => x = d ∧ T = S) (E := fun _ _ _ => False) ⟨rfl, rfl⟩
  cases r with
  | ok x T =>
    obtain ⟨rfl, rfl⟩ := h0
    rfl
  | exc _ _ _ => exact h0.elim
  | bad => exact h0.elim
@[simp] theorem lt_encP {p : Str × Int} : (encP p).lt k = true := by simp [encP]
@[simp] theorem lt_encR {l : Runs} : (encR l).lt k = true := by simp [encR]
@[simp] theorem lt_encC {a b : Runs} : (encC a b).lt k = true := by simp [encC]
@[simp] theorem lt_encPt {p : Int × Int} : (encPt p).lt k = true := by simp [encPt]
theorem Rw_nat {n w : Nat} {i : Int} (j : Nat) (h0 : 0 ≤ i) (h : i < 2 ^ j) (hj : 0 < j) (hj2 : j ≤ 1900) (hw : j + 2 ≤ w) : Rw P n w (.int i) := by
  have := log2_lt h0 h hj
  exact Rw_int (by omega) (by omega)
theorem Rw_run {p : Str × Int} (hl : letter p.1) (h1 : 1 ≤ p.2) (h2 : p.2 ≤ 10 ^ 30) : Rw P 1 300 (encP p) := by
  refine Rw_tup (n := 0) (w := 120) (fun d hd => ?_) (by show 2 * (120 + 2) + 3 ≤ 300; omega)
  simp only [List.mem_cons, List.not_mem_nil, or_false] at hd
  rcases hd with rfl | rfl
  · refine Rw_str ?_
    rcases hl with e | e | e | e <;> rw [e] <;> decide +kernel
  · exact Rw_nat 100 (by omega) (by omega) (by omega) (by omega) (by omega)
theorem Rw_runs {a b : Str} {l : Runs} (ha : letter a) (hb : letter b) (o : okR a b l = true) (h : BndR (10 ^ 30) l) (hl : l.length ≤ 20) : Rw P 2 7000 (encR l) := by
  refine Rw_tup (n := 1) (w := 300) (fun d hd => ?_) (by rw [List.length_map]; omega)
  obtain ⟨p, hp, rfl⟩ := List.mem_map.mp hd
  refine Rw_run ?_ (h p hp).1 (h p hp).2
  rcases (okR_mem o hp).1 with e | e <;> rw [e] <;> assumption
theorem Rw_town {a b : Runs} (t : TownB a b) : Rw P 3 15000 (encC a b) := by
  refine Rw_tup (n := 2) (w := 7000) (fun d hd => ?_) (by show 2 * (7000 + 2) + 3 ≤ 15000; omega)
  simp only [List.mem_cons, List.not_mem_nil, or_false] at hd
  rcases hd with rfl | rfl
  · exact Rw_runs (.inl rfl) (.inr (.inl rfl)) t.oa t.ba t.la
  · exact Rw_runs (.inr (.inr (.inl rfl))) (.inr (.inr (.inr rfl))) t.ob t.bb t.lb
end
end CC
namespace CC
open PySem PySem.Spec PyProof.Rows L2
section
variable {S : Sto}
structure Cn where
  nm : Str
  so : Bool
  we : Bool
def Cn.x (c : Cn) : Str := if c.we = true then "E" else "W"
def Cn.x' (c : Cn) : Str := if c.we = true then "W" else "E"
def Cn.y (c : Cn) : Str := if c.so = true then "N" else "S"
def Cn.y' (c : Cn) : Str := if c.so = true then "S" else "N"
def corners : List Cn := [⟨"SW", true, true⟩, ⟨"SE", true, false⟩, ⟨"NE", false, false⟩, ⟨"NW", false, true⟩]
def pick (first : Bool) (l : Runs) : Str × Int := if first then l.headD ("", 0) else l.getLastD ("", 0)
def kindS (r s : Str) (c : Cn) : Str := if r = c.x ∧ s = c.y then "source" else if r = c.x' ∧ s = c.y' then "sink" else "open"
structure Ent where
  c : Cn
  kd : Str
  w : Int
  h : Int
def ent (a b : Runs) (c : Cn) : Ent := ⟨c, kindS (pick c.so a).1 (pick c.we b).1 c, if kindS (pick c.so a).1 (pick c.we b).1 c = "open" then 0 else (pick c.we b).2, if kindS (pick c.so a).1 (pick c.we b).1 c = "open" then 0 else (pick c.so a).2⟩
def tab (a b : Runs) : List Ent := corners.map (ent a b)
structure Big (a b : Runs) : Prop where
  t : Town a b
  la : a.length ≤ 1000
  lb : b.length ≤ 1000
  ta : total a < 2 ^ 200
  tb : total b < 2 ^ 200
theorem Big.na {a b : Runs} (h : Big a b) : a ≠ [] := by
  intro e
  have := h.t.oa
  rw [e] at this
  cases this
theorem Big.nb {a b : Runs} (h : Big a b) : b ≠ [] := by
  intro e
  have := h.t.ob
  rw [e] at this
  cases this
theorem law_end {r : R D} {d : D} (h : WR r (fun x _ => x = d) (fun _ _ _ => False)) : ∃ S', r = .ok d S' := by
  cases r with
  | ok x S =>
    have : x = d := h
    exact ⟨S, by rw [this]⟩
  | exc _ _ _ => exact h.elim
  | bad => exact h.elim
def lim : Nat → Nat
  | 1 => 4
  | 2 => 45
  | 3 => 6
  | _ => 8
def bd : Nat → Nat
  | 0 => 1100
  | n + 1 => lim (n + 1) * (bd n + 2) + 3
end
end CC
namespace CC
structure Grid where
  W : Int
  H : Int
  e : Int → Bool
  n : Int → Bool
def sgB (b : Bool) : Int := if b = true then 1 else -1
def ahd (b : Bool) (u v : Int) : Prop := if b = true then u ≤ v else v ≤ u
def lst (b : Bool) (w : Int) : Int := if b = true then w - 1 else 0
@[simp] theorem ahd_t {u v : Int} : ahd true u v ↔ u ≤ v := by simp [ahd]
@[simp] theorem ahd_f {u v : Int} : ahd false u v ↔ v ≤ u := by simp [ahd]
@[simp] theorem sgB_t : sgB true = 1 := rfl
@[simp] theorem sgB_f : sgB false = -1 := rfl
@[simp] theorem lst_t {w : Int} : lst true w = w - 1 := rfl
@[simp] theorem lst_f {w : Int} : lst false w = 0 := rfl
namespace Grid
def In (g : Grid) (p : Int × Int) : Prop := 0 ≤ p.1 ∧ p.1 < g.W ∧ 0 ≤ p.2 ∧ p.2 < g.H
def Stp (g : Grid) (p q : Int × Int) : Prop := (q.2 = p.2 ∧ q.1 = p.1 + sgB (g.e p.2) ∧ 0 ≤ q.1 ∧ q.1 < g.W) ∨ (q.1 = p.1 ∧ q.2 = p.2 + sgB (g.n p.1) ∧ 0 ≤ q.2 ∧ q.2 < g.H)
inductive Rch (g : Grid) (p : Int × Int) : Int × Int → Prop
  | refl : Rch g p p
  | tail {q r : Int × Int} (h : Rch g p q) (s : g.Stp q r) : Rch g p r
def op (g : Grid) : Grid := ⟨g.W, g.H, fun y => !g.e y, fun x => !g.n x⟩
def tr (g : Grid) : Grid := ⟨g.H, g.W, g.n, g.e⟩
variable {g : Grid} {p q r : Int × Int}
theorem Rch.trans (h : Rch g p q) (k : Rch g q r) : Rch g p r := by
  induction k with
  | refl => exact h
  | tail _ s ih => exact ih.tail s
theorem Stp.inn (h : g.In p) (s : g.Stp p q) : g.In q := by
  obtain ⟨h1, h2, h3, h4⟩ := h
  rcases s with ⟨s1, s2, s3, s4⟩ | ⟨s1, s2, s3, s4⟩
  · exact ⟨s3, s4, by omega, by omega⟩
  · exact ⟨by omega, by omega, s3, s4⟩
theorem Rch.inn (h : g.In p) (k : Rch g p q) : g.In q := by
  induction k with
  | refl => exact h
  | tail _ s ih => exact Stp.inn ih s
theorem Rch.head (s : g.Stp p q) (k : Rch g q r) : Rch g p r := (Rch.refl.tail s).trans k
theorem sgB_not (b : Bool) : sgB (!b) = -sgB b := by cases b <;> rfl
theorem Stp.op (h : g.In p) (s : g.Stp p q) : g.op.Stp q p := by
  obtain ⟨h1, h2, h3, h4⟩ := h
  rcases s with ⟨s1, s2, s3, s4⟩ | ⟨s1, s2, s3, s4⟩
  · left
    refine ⟨s1.symm, ?_, h1, h2⟩
    show p.1 = q.1 + sgB (!g.e q.2)
    rw [s1, sgB_not]
    omega
  · right
    refine ⟨s1.symm, ?_, h3, h4⟩
    show p.2 = q.2 + sgB (!g.n q.1)
    rw [s1, sgB_not]
    omega
theorem Rch.op (h : g.In p) (k : Rch g p q) : Rch g.op q p := by
  induction k with
  | refl => exact .refl
  | tail k s ih => exact Rch.head (Stp.op (k.inn h) s) ih
def sw (p : Int × Int) : Int × Int := (p.2, p.1)
theorem Stp.tr (s : g.Stp p q) : g.tr.Stp (sw p) (sw q) := by
  rcases s with s | s
  · exact .inr s
  · exact .inl s
theorem Rch.tr (k : Rch g p q) : Rch g.tr (sw p) (sw q) := by
  induction k with
  | refl => exact .refl
  | tail k s ih => exact ih.tail (Stp.tr s)
theorem Rch.of_tr (k : Rch g.tr (sw p) (sw q)) : Rch g p q := Rch.tr k
theorem In.tr (h : g.In p) : g.tr.In (sw p) := ⟨h.2.2.1, h.2.2.2, h.1, h.2.1⟩
theorem east {x y : Int} (he : g.e y = true) (h0 : 0 ≤ x) : ∀ (k : Nat), x + k < g.W → Rch g (x, y) (x + k, y)
  | 0, _ => by simpa using Rch.refl
  | k + 1, h => (east he h0 k (by omega)).tail (.inl ⟨rfl, by show x + ((k + 1 : Nat) : Int) = x + (k : Int) + sgB (g.e y); rw [he, sgB_t]; omega, by show 0 ≤ x + ((k + 1 : Nat) : Int); omega, h⟩)
theorem west {x y : Int} (he : g.e y = false) (h0 : x < g.W) : ∀ (k : Nat), 0 ≤ x - k → Rch g (x, y) (x - k, y)
  | 0, _ => by simpa using Rch.refl
  | k + 1, h => (west he h0 k (by omega)).tail (.inl ⟨rfl, by show x - ((k + 1 : Nat) : Int) = x - (k : Int) + sgB (g.e y); rw [he, sgB_f]; omega, h, by show x - ((k + 1 : Nat) : Int) < g.W; omega⟩)
theorem row {x x' y : Int} (h : g.In (x, y)) (h' : g.In (x', y)) (a : ahd (g.e y) x x') : Rch g (x, y) (x', y) := by
  obtain ⟨h1, h2, _, _⟩ := h
  obtain ⟨h3, h4, _, _⟩ := h'
  simp only at h1 h2 h3 h4
  cases he : g.e y with
  | true =>
    rw [he, ahd_t] at a
    have := east he h1 (x' - x).toNat (by omega)
    have e : x + ((x' - x).toNat : Int) = x' := by omega
    rwa [e] at this
  | false =>
    rw [he, ahd_f] at a
    have := west he h2 (x - x').toNat (by omega)
    have e : x - ((x - x').toNat : Int) = x' := by omega
    rwa [e] at this
theorem col {x y y' : Int} (h : g.In (x, y)) (h' : g.In (x, y')) (a : ahd (g.n x) y y') : Rch g (x, y) (x, y') :=
  Rch.of_tr (row (g := g.tr) h.tr h'.tr a)
def All (g : Grid) (p : Int × Int) : Prop := (∀ y, 0 ≤ y → y < g.H → ∃ x, Rch g p (x, y)) ∧ ∀ x, 0 ≤ x → x < g.W → ∃ y, Rch g p (x, y)
structure Four (g : Grid) : Prop where
  e1 : ∃ y, 0 ≤ y ∧ y < g.H ∧ g.e y = true
  e0 : ∃ y, 0 ≤ y ∧ y < g.H ∧ g.e y = false
  n1 : ∃ x, 0 ≤ x ∧ x < g.W ∧ g.n x = true
  n0 : ∃ x, 0 ≤ x ∧ x < g.W ∧ g.n x = false
theorem Four.tr (f : Four g) : Four g.tr := ⟨f.n1, f.n0, f.e1, f.e0⟩
theorem Four.op (f : Four g) : Four g.op := by
  obtain ⟨⟨a, a1, a2, a3⟩, ⟨b, b1, b2, b3⟩, ⟨c, c1, c2, c3⟩, ⟨d, d1, d2, d3⟩⟩ := f
  exact ⟨⟨b, b1, b2, by simp [Grid.op, b3]⟩, ⟨a, a1, a2, by simp [Grid.op, a3]⟩, ⟨d, d1, d2, by simp [Grid.op, d3]⟩, ⟨c, c1, c2, by simp [Grid.op, c3]⟩⟩
theorem Four.e (f : Four g) (b : Bool) : ∃ y, 0 ≤ y ∧ y < g.H ∧ g.e y = b := by cases b; exact f.e0; exact f.e1
theorem Four.n (f : Four g) (b : Bool) : ∃ x, 0 ≤ x ∧ x < g.W ∧ g.n x = b := by cases b; exact f.n0; exact f.n1
end Grid
end CC
namespace CC
open PySem PySem.Spec PyProof.Rows L2
namespace Grid
variable {g : Grid} {p q : Int × Int}
end Grid
def Dif (l : Runs) : Prop := ∀ i p q, l[i]? = some p → l[i + 1]? = some q → p.1 ≠ q.1
theorem Dif.rev {l : Runs} (h : Dif l) : Dif l.reverse := by
  intro i p q h1 h2
  have l2 : i + 1 < l.length := by
    have := (List.getElem?_eq_some_iff.mp h2).1
    rwa [List.length_reverse] at this
  rw [List.getElem?_reverse (by omega)] at h1
  rw [List.getElem?_reverse l2] at h2
  have e : l.length - 1 - i = (l.length - 1 - (i + 1)) + 1 := by omega
  rw [e] at h1
  exact (h _ q p h2 h1).symm
end CC
namespace CC
open PySem PySem.Spec PyProof.Rows L2 Grid
section
variable {a b : Runs} {p q : Int × Int}
theorem ew : ("E" : Str) ≠ "W" := by decide
theorem ns : ("N" : Str) ≠ "S" := by decide
def cL (d : Bool) : Str := if d = true then "N" else "S"
end
end CC
namespace CC
open PySem PySem.Spec PyProof.Rows L2 Grid
def rstep (acc : Runs) (x : Str) : Runs := match acc.getLast? with
  | some p => if p.1 = x then acc.dropLast ++ [(x, p.2 + 1)] else acc ++ [(x, 1)]
  | none => acc ++ [(x, 1)]
def rns (l : List Str) : Runs := l.foldl rstep []
structure RnsOk (A B : Str) (l : List Str) : Prop where
  tot : total (rns l) = l.length
  pos : ∀ p ∈ rns l, 1 ≤ p.2
  let_ : ∀ p ∈ rns l, p.1 = A ∨ p.1 = B
  dif : Dif (rns l)
  sgn : ∀ (i : Nat) (h : i < l.length), signL (rns l) i = l[i]
  len : (rns l).length ≤ l.length
  ne : l ≠ [] → rns l ≠ []
theorem dif_ascR : ∀ {l : Runs}, Dif l → ascR l = true := by
  intro l h
  unfold ascR
  refine List.all_eq_true.mpr fun pq hpq => ?_
  obtain ⟨i, hi, e⟩ := List.getElem_of_mem hpq
  obtain ⟨p, q⟩ := pq
  have : (l.zip l.tail)[i]? = some (p, q) := by rw [List.getElem?_eq_getElem hi, e]
  rw [List.getElem?_zip_eq_some] at this
  obtain ⟨h1, h2⟩ := this
  rw [List.getElem?_tail] at h2
  have := h i p q h1 h2
  simpa using this
theorem RnsOk.okR {A B : Str} {l : List Str} (h : RnsOk A B l) (h0 : l ≠ []) : okR A B (rns l) = true := by
  unfold CC.okR
  rw [Bool.and_eq_true, Bool.and_eq_true]
  refine ⟨⟨?_, ?_⟩, dif_ascR h.dif⟩
  · cases hr : rns l with
    | nil => exact absurd hr (h.ne h0)
    | cons _ _ => rfl
  · refine List.all_eq_true.mpr fun p hp => ?_
    rcases h.let_ p hp with e | e <;> simp [e, h.pos p hp]
def lgr (R C : List Str) : Grid := ⟨C.length, R.length, fun y => R.getD y.toNat "" == "E", fun x => C.getD x.toNat "" == "N"⟩
def nb (R C : List Str) (p : Int × Int) : List (Int × Int) :=
  (if 0 ≤ p.1 + sgB ((lgr R C).e p.2) ∧ p.1 + sgB ((lgr R C).e p.2) < C.length then [(p.1 + sgB ((lgr R C).e p.2), p.2)] else []) ++
  (if 0 ≤ p.2 + sgB ((lgr R C).n p.1) ∧ p.2 + sgB ((lgr R C).n p.1) < R.length then [(p.1, p.2 + sgB ((lgr R C).n p.1))] else [])
def nk (p : Int × Int) : NestedKey := .tup [.num p.1, .num p.2]
section
variable {S : Sto} {Q : D → Sto → Prop} {E : Nat → List D → Sto → Prop} {ks : List NestedKey} {ds : List D}
@[simp ↓] theorem fr_fm {S0 : Sto} : WR (trim S0 (frzD (.fm ks ds) S)) Q E = Q (.fm ks ds) (cutS S0 (ltL S0.length ds) S) := by rw [wp_trim]; show Q _ (cutS S0 _ S) = _; rw [lt_fm]
end
end CC
namespace CC
open PySem PySem.Spec PyProof.Rows L2 Grid
structure Kp (w : Int) (f : Int → Bool) (w' : Int) (f' : Int → Bool) (φ : Int → Int) : Prop where
  inn : ∀ x, 0 ≤ x → x < w' → 0 ≤ φ x ∧ φ x < w
  up : ∀ x y, 0 ≤ x → x < w' → 0 ≤ y → y < w' → (x ≤ y ↔ φ x ≤ φ y)
  eq : ∀ x, 0 ≤ x → x < w' → f' x = f (φ x)
  run : ∀ u, 0 ≤ u → u < w → ∃ x y, 0 ≤ x ∧ x < w' ∧ 0 ≤ y ∧ y < w' ∧ φ x ≤ u ∧ u ≤ φ y ∧ ∀ z, φ x ≤ z → z ≤ φ y → f z = f u
section
variable {w w' : Int} {f f' : Int → Bool} {φ : Int → Int} {x y : Int}
theorem Kp.ahd (k : Kp w f w' f' φ) {b : Bool} (x0 : 0 ≤ x) (x1 : x < w') (y0 : 0 ≤ y) (y1 : y < w') : CC.ahd b x y ↔ CC.ahd b (φ x) (φ y) := by
  cases b
  · rw [ahd_f, ahd_f]; exact k.up y x y0 y1 x0 x1
  · rw [ahd_t, ahd_t]; exact k.up x y x0 x1 y0 y1
theorem Kp.inj (k : Kp w f w' f' φ) (x0 : 0 ≤ x) (x1 : x < w') (y0 : 0 ≤ y) (y1 : y < w') : x = y ↔ φ x = φ y := by
  have h1 := k.up x y x0 x1 y0 y1
  have h2 := k.up y x y0 y1 x0 x1
  constructor
  · intro e; rw [e]
  · intro e
    have := h1.mpr (by omega)
    have := h2.mpr (by omega)
    omega
theorem Kp.not (k : Kp w f w' f' φ) : Kp w (fun z => !f z) w' (fun z => !f' z) φ where
  inn := k.inn
  up := k.up
  eq := fun x x0 x1 => by rw [k.eq x x0 x1]
  run := fun u u0 u1 => by
    obtain ⟨x, y, h1, h2, h3, h4, h5, h6, h7⟩ := k.run u u0 u1
    exact ⟨x, y, h1, h2, h3, h4, h5, h6, fun z z1 z2 => by rw [h7 z z1 z2]⟩
theorem Kp.some (k : Kp w f w' f' φ) {d : Bool} (h : ∃ z, 0 ≤ z ∧ z < w ∧ f z = d) : ∃ z, 0 ≤ z ∧ z < w' ∧ f' z = d := by
  obtain ⟨z, z0, z1, zd⟩ := h
  obtain ⟨x, y, h1, h2, h3, h4, h5, h6, h7⟩ := k.run z z0 z1
  exact ⟨x, h1, h2, by rw [k.eq x h1 h2, h7 (φ x) (Int.le_refl _) (by omega), zd]⟩
theorem Kp.all (k : Kp w f w' f' φ) {b : Bool} (x0 : 0 ≤ x) (x1 : x < w') :
    (∀ z, 0 ≤ z → z < w' → CC.ahd b x z → f' z = f' x) ↔ ∀ z, 0 ≤ z → z < w → CC.ahd b (φ x) z → f z = f (φ x) := by
  constructor
  · intro h z z0 z1 hz
    obtain ⟨u, v, h1, h2, h3, h4, h5, h6, h7⟩ := k.run z z0 z1
    cases b with
    | true =>
      rw [ahd_t] at hz
      have := h v h3 h4 (by rw [ahd_t]; exact (k.up x v x0 x1 h3 h4).mpr (by omega))
      rw [k.eq v h3 h4, k.eq x x0 x1] at this
      rw [← this, h7 (φ v) (by omega) (Int.le_refl _)]
    | false =>
      rw [ahd_f] at hz
      have := h u h1 h2 (by rw [ahd_f]; exact (k.up u x h1 h2 x0 x1).mpr (by omega))
      rw [k.eq u h1 h2, k.eq x x0 x1] at this
      rw [← this, h7 (φ u) (Int.le_refl _) (by omega)]
  · intro h z z0 z1 hz
    rw [k.eq z z0 z1, k.eq x x0 x1]
    exact h (φ z) (k.inn z z0 z1).1 (k.inn z z0 z1).2 ((k.ahd x0 x1 z0 z1).mp hz)
end
namespace Grid
structure Keeps (g h : Grid) (φ ψ : Int → Int) : Prop where
  x : Kp g.W g.n h.W h.n φ
  y : Kp g.H g.e h.H h.e ψ
section
variable {g h : Grid} {φ ψ : Int → Int} {p q : Int × Int}
theorem Keeps.tr (k : Keeps g h φ ψ) : Keeps g.tr h.tr ψ φ := ⟨k.y, k.x⟩
theorem Keeps.op (k : Keeps g h φ ψ) : Keeps g.op h.op φ ψ := ⟨k.x.not, k.y.not⟩
theorem Keeps.inn (k : Keeps g h φ ψ) (hp : h.In p) : g.In (φ p.1, ψ p.2) := by
  obtain ⟨h1, h2, h3, h4⟩ := hp
  exact ⟨(k.x.inn _ h1 h2).1, (k.x.inn _ h1 h2).2, (k.y.inn _ h3 h4).1, (k.y.inn _ h3 h4).2⟩
end
end Grid
end CC
namespace CC
open PySem PySem.Spec PyProof.Rows L2 Grid
theorem Dif.left {l m : Runs} (h : Dif (l ++ m)) : Dif l := by
  intro i x y hx hy
  have h1 := (List.getElem?_eq_some_iff.mp hx).1
  have h2 := (List.getElem?_eq_some_iff.mp hy).1
  exact h i x y (by rw [List.getElem?_append_left h1]; exact hx) (by rw [List.getElem?_append_left h2]; exact hy)
theorem cut_ext {S J0 J : List SO} {b : Bool} : ∃ G1, cutS (S ++ J0) b (S ++ J) = S ++ G1 := by
  unfold cutS
  split
  · refine ⟨J.take J0.length, ?_⟩
    rw [List.length_append, List.take_append, List.take_of_length_le (by omega)]
    congr 1
    congr 1
    omega
  · exact ⟨J, rfl⟩
theorem fz_any {i m : Nat} {S J0 J : Sto} {ρ : Env} {p : Po} {ds : List D} (h : ρ[i]?.bind id = some (.loc m)) (e : (S ++ J)[m]? = some (.lst ds)) (hm : S.length ≤ m) (hp : ∀ G1, p.nx (ρ.set i (some (.fl ds))) (S ++ G1)) : Ws (fzE i (S ++ J0) ρ (S ++ J)) p := by
  rw [fz_at h e, List.set_append_right _ _ hm]
  obtain ⟨G1, eG⟩ := cut_ext (S := S) (J0 := J0) (J := J.set (m - S.length) (.frz ds)) (b := envLt (S ++ J0).length (ρ.set i (some (.fl ds))))
  rw [eG]
  exact hp G1
theorem fz_any0 {i m : Nat} {S J : Sto} {ρ : Env} {p : Po} {ds : List D} (h : ρ[i]?.bind id = some (.loc m)) (e : (S ++ J)[m]? = some (.lst ds)) (hm : S.length ≤ m) (hp : ∀ G1, p.nx (ρ.set i (some (.fl ds))) (S ++ G1)) : Ws (fzE i S ρ (S ++ J)) p := by
  have := fz_any (J0 := []) h e hm hp
  rwa [List.append_nil] at this
end CC
namespace CC
open PySem PySem.Spec PyProof.Rows L2
abbrev f_is_integer : Nat := 0
abbrev f_is_run : Nat := 1
abbrev f_are_runs : Nat := 2
abbrev f_is_city : Nat := 3
abbrev f_read_number : Nat := 4
abbrev f_read_run : Nat := 5
abbrev f_read_point : Nat := 6
abbrev f_is_path : Nat := 7
abbrev f_format_runs : Nat := 8
abbrev f_format_city : Nat := 9
abbrev f_format_drive : Nat := 10
abbrev f_parse_city : Nat := 11
abbrev f_parse_drive : Nat := 12
abbrev f__law_source : Nat := 13
abbrev f__law_draw : Nat := 14
abbrev f__law_runs : Nat := 15
abbrev f__law_town : Nat := 16
abbrev f__law_note : Nat := 17
abbrev f__law_line : Nat := 18
abbrev f__law_both_ways : Nat := 19
abbrev f__law_point : Nat := 20
abbrev f__law_long_right : Nat := 21
abbrev f_law : Nat := 22
def bd_is_integer : Sx := (.cons (.ret (.and (.bi .isinst (.cons (.var 0) (.cons (.tyc "int") .nil))) (.and (.nt (.bi .isinst (.cons (.var 0) (.cons (.tyc
  "bool") .nil)))) (.cmp .GtE (.var 0) (.var 1))))) .nil)
def bd_is_run : Sx := (.cons (.iff (.or (.nt (.bi .isinst (.cons (.var 0) (.cons (.tyc "tuple") .nil)))) (.cmp .NotEq (.bi .len (.cons (.var 0) .nil)) (.int
  2))) (.cons (.ret (.bl false)) .nil) .nil) (.cons (.ret (.and (.bi .isinst (.cons (.ix (.var 0) (.int 0)) (.cons (.tyc "str") .nil))) (.and (.cmp .In (.ix
  (.var 0) (.int 0)) (.var 1)) (.call 0 (.cons (.ix (.var 0) (.int 1)) (.cons (.int 1) .nil)))))) .nil))
def bd_are_runs : Sx := (.cons (.iff (.or (.nt (.bi .isinst (.cons (.var 0) (.cons (.tyc "tuple") .nil)))) (.or (.cmp .Eq (.bi .len (.cons (.var 0) .nil))
  (.int 0)) (.nt (.bi .all (.cons (.frzv (.lc (.itr (.var 0)) (.var 4) (.call 1 (.cons (.var 4) (.cons (.var 1) .nil))) (.bl true) [4])) .nil))))) (.cons (.ret
  (.bl false)) .nil) .nil) (.cons (.ret (.bi .all (.cons (.frzv (.lc (.zip2 (.var 0) (.frzv (.sl (.var 0) (.cons (.int 1) .nil) .nil))) (.tup (.cons (.var 2)
  (.cons (.var 3) .nil))) (.cmp .NotEq (.ix (.var 2) (.int 0)) (.ix (.var 3) (.int 0))) (.bl true) [2, 3])) .nil))) .nil))
def bd_is_city : Sx := (.cons (.iff (.or (.nt (.bi .isinst (.cons (.var 0) (.cons (.tyc "tuple") .nil)))) (.cmp .NotEq (.bi .len (.cons (.var 0) .nil)) (.int
  2))) (.cons (.ret (.bl false)) .nil) .nil) (.cons (.ret (.and (.call 2 (.cons (.ix (.var 0) (.int 0)) (.cons (.tup (.cons (.glo 0) (.cons (.glo 1) .nil)))
  .nil))) (.call 2 (.cons (.ix (.var 0) (.int 1)) (.cons (.tup (.cons (.glo 2) (.cons (.glo 3) .nil))) .nil))))) .nil))
def bd_read_number : Sx := (.cons (.iff (.or (.cmp .Eq (.var 0) (.str "")) (.nt (.bi .all (.cons (.frzv (.lc (.itr (.var 0)) (.var 1) (.cmp .In (.var 1) (.glo
  7)) (.bl true) [1])) .nil)))) (.cons (.ret .non) .nil) .nil) (.cons (.ret (.ife (.or (.cmp .NotEq (.ix (.var 0) (.int 0)) (.str "0")) (.cmp .Eq (.var 0)
  (.str "0"))) (.prm intBF (.cons (.var 0) .nil)) .non)) .nil))
def bd_read_run : Sx := (.cons (.asg (.var 1) (.call 4 (.cons (.frzv (.sl (.var 0) (.cons (.int 1) .nil) .nil)) .nil))) (.cons (.ret (.ife (.cmp .Is (.var 1)
  .non) .non (.tup (.cons (.ix (.var 0) (.int 0)) (.cons (.var 1) .nil))))) .nil))
def bd_read_point : Sx := (.cons (.fz 1 (.asg (.var 1) (.lc (.itr (.prm splF (.cons (.prm asStrF (.cons (.var 0) .nil)) (.cons (.glo 6) .nil)))) (.var 2)
  (.call 4 (.cons (.var 2) .nil)) (.bl true) [2]))) (.cons (.ret (.ife (.and (.cmp .Eq (.bi .len (.cons (.var 1) .nil)) (.int 2)) (.cmp .NotIn .non (.var 1)))
  (.bi .tuple (.cons (.var 1) .nil)) .non)) .nil))
def bd_is_path : Sx := (.cons (.iff (.or (.nt (.bi .isinst (.cons (.var 0) (.cons (.tyc "list") .nil)))) (.cmp .Eq (.var 0) (.frzv (.lst .nil)))) (.cons (.ret
  (.bl false)) .nil) .nil) (.cons (.for_ (.var 1) (.itr (.var 0)) (.cons (.iff (.or (.nt (.bi .isinst (.cons (.var 1) (.cons (.tyc "tuple") .nil)))) (.or (.cmp
  .NotEq (.bi .len (.cons (.var 1) .nil)) (.int 2)) (.nt (.bi .all (.cons (.frzv (.lc (.itr (.var 1)) (.var 2) (.call 0 (.cons (.var 2) (.cons (.int 0) .nil)))
  (.bl true) [2])) .nil))))) (.cons (.ret (.bl false)) .nil) .nil) .nil)) (.cons (.ret (.bl true)) .nil)))
def bd_format_runs : Sx := (.cons (.ret (.prm joiF (.cons (.prm asStrF (.cons (.glo 4) .nil)) (.cons (.frzv (.lc (.itr (.var 0)) (.tup (.cons (.var 1) (.cons
  (.var 2) .nil))) (.bin .Add (.var 1) (.bi .str (.cons (.var 2) .nil))) (.bl true) [1, 2])) .nil)))) .nil)
def bd_format_city : Sx := (.cons (.iff (.nt (.call 3 (.cons (.var 0) .nil))) (.cons (.rse 1 .nil) .nil) .nil) (.cons (.ret (.bin .Add (.bin .Add (.call 8
  (.cons (.ix (.var 0) (.int 0)) .nil)) (.glo 5)) (.call 8 (.cons (.ix (.var 0) (.int 1)) .nil)))) .nil))
def bd_format_drive : Sx := (.cons (.iff (.nt (.call 7 (.cons (.var 0) .nil))) (.cons (.rse 5 .nil) .nil) .nil) (.cons (.ret (.prm joiF (.cons (.prm asStrF
  (.cons (.glo 4) .nil)) (.cons (.frzv (.lc (.itr (.var 0)) (.tup (.cons (.var 1) (.cons (.var 2) .nil))) (.bin .Add (.bin .Add (.prm strBF (.cons (.var 1)
  .nil)) (.glo 6)) (.prm strBF (.cons (.var 2) .nil))) (.bl true) [1, 2])) .nil)))) .nil))
def bd_parse_city : Sx := (.cons (.iff (.nt (.bi .isinst (.cons (.var 0) (.cons (.tyc "str") .nil)))) (.cons (.rse 7 .nil) .nil) .nil) (.cons (.asg (.var 1)
  (.bi .tuple (.cons (.frzv (.lc (.itr (.prm splF (.cons (.prm asStrF (.cons (.var 0) .nil)) (.cons (.glo 5) .nil)))) (.var 2) (.bi .tuple (.cons (.frzv (.lc
  (.itr (.prm splF (.cons (.prm asStrF (.cons (.var 2) .nil)) (.cons (.glo 4) .nil)))) (.var 3) (.call 5 (.cons (.var 3) .nil)) (.bl true) [3])) .nil)) (.bl
  true) [2])) .nil))) (.cons (.iff (.nt (.call 3 (.cons (.var 1) .nil))) (.cons (.rse 7 .nil) .nil) .nil) (.cons (.ret (.var 1)) .nil))))
def bd_parse_drive : Sx := (.cons (.iff (.nt (.bi .isinst (.cons (.var 0) (.cons (.tyc "str") .nil)))) (.cons (.rse 7 .nil) .nil) .nil) (.cons (.asg (.var 1)
  (.lc (.itr (.prm splF (.cons (.prm asStrF (.cons (.var 0) .nil)) (.cons (.glo 4) .nil)))) (.var 2) (.call 6 (.cons (.var 2) .nil)) (.bl true) [2])) (.cons
  (.iff (.cmp .In .non (.var 1)) (.cons (.rse 7 .nil) .nil) .nil) (.cons (.ret (.var 1)) .nil))))
def bd__law_source : Sx := (.cons (.asg (.var 2) (.ife (.cmp .Lt (.var 1) (.bi .len (.cons (.var 0) .nil))) (.ix (.var 0) (.var 1)) (.int 0))) (.cons (.ret
  (.lst (.cons (.bi .max (.cons (.int 0) (.cons (.bin .Sub (.bi .abs (.cons (.var 2) .nil)) (.bin .Pow (.int 10) (.int 18))) .nil))) (.cons (.bin .Add (.bin
  .Mod (.var 2) (.bin .Add (.bin .Pow (.int 10) (.int 40)) (.int 121))) (.bin .Mult (.int 39916801) (.var 1))) (.cons (.int 0) .nil))))) .nil))
def bd__law_draw : Sx := (.cons (.iff (.cmp .Gt (.ix (.var 0) (.int 0)) (.int 0)) (.cons (.asg (.var 2) (.bin .Mod (.ix (.var 0) (.int 0)) (.var 1))) (.cons
  (.asg (.ix (.var 0) (.int 0)) (.bin .FloorDiv (.ix (.var 0) (.int 0)) (.var 1))) (.cons (.ret (.var 2)) .nil))) .nil) (.cons (.asg (.ix (.var 0) (.int 2))
  (.bin .Add (.ix (.var 0) (.int 2)) (.int 1))) (.cons (.asg (.var 3) (.bin .Mod (.bin .Pow (.bin .Add (.ix (.var 0) (.int 1)) (.bin .Mult (.int 179424673)
  (.ix (.var 0) (.int 2)))) (.int 3)) (.bin .Add (.bin .Pow (.int 10) (.int 41)) (.int 37)))) (.cons (.asg (.var 3) (.bin .Mod (.bin .Pow (.bin .Add (.var 3)
  (.bin .Mult (.int 22801763489) (.ix (.var 0) (.int 2)))) (.int 3)) (.bin .Add (.bin .Pow (.int 10) (.int 40)) (.int 121)))) (.cons (.ret (.bin .Mod (.bin
  .FloorDiv (.var 3) (.int 262147)) (.var 1))) .nil)))))
def bd__law_runs : Sx := (.cons (.par [4, 5] (.cons (.call 14 (.cons (.var 0) (.cons (.int 2) .nil))) (.cons (.lst .nil) .nil))) (.cons (.fz 5 (.for_ (.var 6)
  (.rng1 (.bin .Add (.int 1) (.call 14 (.cons (.var 0) (.cons (.var 2) .nil))))) (.cons (.asg (.var 7) (.ix (.frzv (.lst (.cons (.int 1) (.cons (.bin .Add
  (.int 1) (.call 14 (.cons (.var 0) (.cons (.int 3) .nil)))) (.cons (.bin .Add (.int 1) (.call 14 (.cons (.var 0) (.cons (.var 3) .nil)))) .nil))))) (.call 14
  (.cons (.var 0) (.cons (.int 3) .nil))))) (.cons (.ex (.mt .append (.var 5) (.cons (.tup (.cons (.ix (.var 1) (.bin .Mod (.bin .Add (.var 4) (.var 6)) (.int
  2))) (.cons (.var 7) .nil))) .nil))) .nil)))) (.cons (.ret (.bi .tuple (.cons (.var 5) .nil))) .nil)))
def bd__law_town : Sx := (.cons (.ret (.tup (.cons (.call 15 (.cons (.var 0) (.cons (.str "EW") (.cons (.var 1) (.cons (.var 2) .nil))))) (.cons (.call 15
  (.cons (.var 0) (.cons (.str "NS") (.cons (.var 1) (.cons (.var 2) .nil))))) .nil)))) .nil)
def bd__law_note : Sx := (.cons (.asg (.var 1) (.str "")) (.cons (.for_ (.var 2) (.rng1 (.int 2)) (.cons (.for_ (.tup (.cons (.var 3) (.cons (.var 4) .nil)))
  (.itr (.ix (.var 0) (.var 2))) (.cons (.asg (.var 1) (.bin .Add (.bin .Add (.bin .Add (.var 1) (.var 3)) (.bi .str (.cons (.var 4) .nil))) (.str " ")))
  .nil)) (.cons (.asg (.var 1) (.bin .Add (.var 1) (.ix (.frzv (.lst (.cons (.str "| ") (.cons (.str "") .nil)))) (.var 2)))) .nil))) (.cons (.ret (.frzv (.sl
  (.var 1) .nil (.cons (.neg (.int 1)) .nil)))) .nil)))
def bd__law_line : Sx := (.cons (.asg (.var 1) (.str "")) (.cons (.for_ (.tup (.cons (.var 2) (.cons (.var 3) .nil))) (.itr (.var 0)) (.cons (.asg (.var 1)
  (.bin .Add (.bin .Add (.bin .Add (.bin .Add (.var 1) (.bi .str (.cons (.var 2) .nil))) (.str ",")) (.bi .str (.cons (.var 3) .nil))) (.str " "))) .nil))
  (.cons (.ret (.frzv (.sl (.var 1) .nil (.cons (.neg (.int 1)) .nil)))) .nil)))
def bd__law_both_ways : Sx := (.cons (.par [2, 3] (.cons (.call 17 (.cons (.var 0) .nil)) (.cons (.call 18 (.cons (.var 1) .nil)) .nil))) (.cons (.asg (.var 4)
  (.bi .repr (.cons (.frzv (.lst (.cons (.var 0) (.cons (.var 1) .nil)))) .nil))) (.cons (.iff (.cmp .NotEq (.frzv (.lst (.cons (.call 9 (.cons (.var 0) .nil))
  (.cons (.callk 9 .nil (.cons (.var 0) .nil) [0]) .nil)))) (.frzv (.lst (.cons (.var 2) (.cons (.var 2) .nil))))) (.cons (.ret (.bl false)) .nil) .nil) (.cons
  (.iff (.cmp .NotEq (.frzv (.lst (.cons (.call 10 (.cons (.var 1) .nil)) (.cons (.callk 10 .nil (.cons (.var 1) .nil) [0]) .nil)))) (.frzv (.lst (.cons (.var
  3) (.cons (.var 3) .nil))))) (.cons (.ret (.bl false)) .nil) .nil) (.cons (.for_ (.var 5) (.rng1 (.int 2)) (.cons (.asg (.var 6) (.lst (.cons (.call 12
  (.cons (.var 3) .nil)) (.cons (.callk 12 .nil (.cons (.var 3) .nil) [0]) .nil)))) (.cons (.iff (.or (.cmp .NotEq (.bi .repr (.cons (.var 6) .nil)) (.bi .repr
  (.cons (.frzv (.lst (.cons (.var 1) (.cons (.var 1) .nil)))) .nil))) (.cmp .NotEq (.bi .repr (.cons (.call 11 (.cons (.var 2) .nil)) .nil)) (.bi .repr (.cons
  (.var 0) .nil)))) (.cons (.ret (.bl false)) .nil) .nil) (.cons (.iff (.or (.cmp .NotEq (.callk 11 .nil (.cons (.var 2) .nil) [0]) (.var 0)) (.cmp .NotEq (.bi
  .repr (.cons (.frzv (.lst (.cons (.var 0) (.cons (.var 1) .nil)))) .nil)) (.var 4))) (.cons (.ret (.bl false)) .nil) .nil) (.cons (.ex (.mt .append (.ix
  (.var 6) (.int 0)) (.cons (.tup (.cons (.int 0) (.cons (.int 0) .nil))) .nil))) .nil))))) (.cons (.ret (.bl true)) .nil))))))
def bd__law_point : Sx := (.cons (.asg (.var 2) (.call 14 (.cons (.var 0) (.cons (.ix (.frzv (.lst (.cons (.int 3) (.cons (.int 40) (.cons (.var 1) .nil)))))
  (.call 14 (.cons (.var 0) (.cons (.int 3) .nil)))) .nil)))) (.cons (.ret (.tup (.cons (.var 2) (.cons (.call 14 (.cons (.var 0) (.cons (.ix (.frzv (.lst
  (.cons (.int 3) (.cons (.int 40) (.cons (.var 1) .nil))))) (.call 14 (.cons (.var 0) (.cons (.int 3) .nil)))) .nil))) .nil)))) .nil))
def bd__law_long_right : Sx := (.cons (.asg (.var 0) (.bi .tuple (.cons (.frzv (.lc (.rng1 (.int 40)) (.var 6) (.tup (.cons (.ix (.str "EW") (.bin .Mod (.var
  6) (.int 2))) (.cons (.bin .Add (.bin .Pow (.int 10) (.int 30)) (.var 6)) .nil))) (.bl true) [6])) .nil))) (.cons (.asg (.var 1) (.bi .tuple (.cons (.frzv
  (.lc (.rng1 (.int 49)) (.var 6) (.tup (.cons (.ix (.str "NS") (.bin .Mod (.var 6) (.int 2))) (.cons (.bin .Sub (.bin .Sub (.bin .Pow (.int 10) (.int 30))
  (.int 1)) (.var 6)) .nil))) (.bl true) [6])) .nil))) (.cons (.asg (.var 2) (.call 17 (.cons (.tup (.cons (.var 0) (.cons (.var 1) .nil))) .nil))) (.cons
  (.asg (.var 3) (.call 11 (.cons (.var 2) .nil))) (.cons (.iff (.or (.cmp .Gt (.bi .len (.cons (.var 2) .nil)) (.int 3000)) (.or (.cmp .NotEq (.var 3) (.tup
  (.cons (.var 0) (.cons (.var 1) .nil)))) (.cmp .NotEq (.call 9 (.cons (.var 3) .nil)) (.var 2)))) (.cons (.ret (.bl false)) .nil) .nil) (.cons (.fz 4 (.asg
  (.var 4) (.lc (.rng1 (.int 200)) (.var 6) (.tup (.cons (.var 6) (.cons (.bin .Sub (.bin .Pow (.int 10) (.int 9)) (.var 6)) .nil))) (.bl true) [6]))) (.cons
  (.asg (.var 5) (.call 18 (.cons (.var 4) .nil))) (.cons (.ret (.and (.cmp .LtE (.bi .len (.cons (.var 5) .nil)) (.int 3000)) (.and (.cmp .Eq (.frzv (.call 12
  (.cons (.var 5) .nil))) (.var 4)) (.cmp .Eq (.call 10 (.cons (.var 4) .nil)) (.var 5))))) .nil))))))))
def bd_law : Sx := (.cons (.for_ (.var 1) (.rng1 (.bi .max (.cons (.int 1) (.cons (.bi .min (.cons (.int 6) (.cons (.bi .len (.cons (.var 0) .nil)) .nil)))
  .nil)))) (.cons (.asg (.var 2) (.call 13 (.cons (.var 0) (.cons (.var 1) .nil)))) (.cons (.for_ (.var 3) (.rng1 (.int 2)) (.cons (.par [4, 5] (.cons (.ix
  (.frzv (.lst (.cons (.int 3) (.cons (.int 20) .nil)))) (.call 14 (.cons (.var 2) (.cons (.int 2) .nil)))) (.cons (.ix (.frzv (.lst (.cons (.int 3) (.cons
  (.bin .Pow (.int 10) (.int 30)) .nil)))) (.call 14 (.cons (.var 2) (.cons (.int 2) .nil)))) .nil))) (.cons (.asg (.tup (.cons (.var 6) (.cons (.var 7)
  .nil))) (.tup (.cons (.call 16 (.cons (.var 2) (.cons (.var 4) (.cons (.var 5) .nil)))) (.cons (.ix (.frzv (.lst (.cons (.int 99) (.cons (.bin .Pow (.int 10)
  (.int 10)) (.cons (.bin .Pow (.int 10) (.int 31)) .nil))))) (.call 14 (.cons (.var 2) (.cons (.int 3) .nil)))) .nil)))) (.cons (.asg (.var 8) (.bin .Add
  (.int 1) (.call 14 (.cons (.var 2) (.cons (.ix (.frzv (.lst (.cons (.int 6) (.cons (.int 40) .nil)))) (.call 14 (.cons (.var 2) (.cons (.int 2) .nil))))
  .nil))))) (.cons (.asg (.var 9) (.lc (.rng1 (.var 8)) (.var 11) (.call 20 (.cons (.var 2) (.cons (.var 7) .nil))) (.bl true) [11])) (.cons (.iff (.nt (.call
  19 (.cons (.var 6) (.cons (.var 9) .nil)))) (.cons (.ret (.bl false)) .nil) .nil) (.cons (.fz 9 (.asg (.sl (.var 9) (.cons (.bin .FloorDiv (.var 8) (.int 2))
  .nil) .nil) (.lst (.cons (.call 20 (.cons (.var 2) (.cons (.var 7) .nil))) .nil)))) (.cons (.iff (.nt (.call 19 (.cons (.var 6) (.cons (.var 9) .nil))))
  (.cons (.ret (.bl false)) .nil) .nil) .nil)))))))) .nil))) (.cons (.asg (.var 6) (.tup (.cons (.tup (.cons (.tup (.cons (.str "E") (.cons (.int 1) .nil)))
  (.cons (.tup (.cons (.str "W") (.cons (.int 12) .nil))) .nil))) (.cons (.tup (.cons (.tup (.cons (.str "S") (.cons (.int 100) .nil))) .nil)) .nil)))) (.cons
  (.iff (.or (.cmp .NotEq (.call 9 (.cons (.var 6) .nil)) (.str "E1 W12 | S100")) (.cmp .NotEq (.frzv (.call 12 (.cons (.str "0,0") .nil))) (.frzv (.lst (.cons
  (.tup (.cons (.int 0) (.cons (.int 0) .nil))) .nil))))) (.cons (.ret (.bl false)) .nil) .nil) (.cons (.asg (.var 10) (.frzv (.lst (.cons (.call 11 (.cons
  (.bin .Add (.bin .Add (.str "E1") (.prm mulSF (.cons (.str "0") (.cons (.int 300) .nil)))) (.str " | N1")) .nil)) (.cons (.frzv (.call 12 (.cons (.bin .Add
  (.bin .Add (.str "1") (.prm mulSF (.cons (.str "0") (.cons (.int 900) .nil)))) (.str ",7 0,0")) .nil))) .nil))))) (.cons (.iff (.cmp .NotEq (.var 10) (.frzv
  (.lst (.cons (.tup (.cons (.tup (.cons (.tup (.cons (.str "E") (.cons (.bin .Mult (.bin .Mult (.bin .Mult (.bin .Mult (.bin .Pow (.int 10) (.int 60)) (.bin
  .Pow (.int 10) (.int 60))) (.bin .Pow (.int 10) (.int 60))) (.bin .Pow (.int 10) (.int 60))) (.bin .Pow (.int 10) (.int 60))) .nil))) .nil)) (.cons (.tup
  (.cons (.tup (.cons (.str "N") (.cons (.int 1) .nil))) .nil)) .nil))) (.cons (.ix (.var 10) (.int 1)) .nil))))) (.cons (.ret (.bl false)) .nil) .nil) (.cons
  (.iff (.or (.cmp .NotEq (.call 9 (.cons (.ix (.var 10) (.int 0)) .nil)) (.bin .Add (.bin .Add (.str "E1") (.prm mulSF (.cons (.str "0") (.cons (.int 300)
  .nil)))) (.str " | N1"))) (.cmp .NotEq (.call 10 (.cons (.ix (.var 10) (.int 1)) .nil)) (.bin .Add (.bin .Add (.str "1") (.prm mulSF (.cons (.str "0") (.cons
  (.int 900) .nil)))) (.str ",7 0,0")))) (.cons (.ret (.bl false)) .nil) .nil) (.cons (.ret (.callk 21 .nil .nil [])) .nil)))))))
def fd_is_integer : Fd := ⟨2, 2, bd_is_integer⟩
def fd_is_run : Fd := ⟨2, 2, bd_is_run⟩
def fd_are_runs : Fd := ⟨2, 5, bd_are_runs⟩
def fd_is_city : Fd := ⟨1, 1, bd_is_city⟩
def fd_read_number : Fd := ⟨1, 2, bd_read_number⟩
def fd_read_run : Fd := ⟨1, 2, bd_read_run⟩
def fd_read_point : Fd := ⟨1, 3, bd_read_point⟩
def fd_is_path : Fd := ⟨1, 3, bd_is_path⟩
def fd_format_runs : Fd := ⟨1, 3, bd_format_runs⟩
def fd_format_city : Fd := ⟨1, 1, bd_format_city⟩
def fd_format_drive : Fd := ⟨1, 3, bd_format_drive⟩
def fd_parse_city : Fd := ⟨1, 4, bd_parse_city⟩
def fd_parse_drive : Fd := ⟨1, 3, bd_parse_drive⟩
def fd__law_source : Fd := ⟨2, 3, bd__law_source⟩
def fd__law_draw : Fd := ⟨2, 4, bd__law_draw⟩
def fd__law_runs : Fd := ⟨4, 8, bd__law_runs⟩
def fd__law_town : Fd := ⟨3, 3, bd__law_town⟩
def fd__law_note : Fd := ⟨1, 5, bd__law_note⟩
def fd__law_line : Fd := ⟨1, 4, bd__law_line⟩
def fd__law_both_ways : Fd := ⟨2, 7, bd__law_both_ways⟩
def fd__law_point : Fd := ⟨2, 3, bd__law_point⟩
def fd__law_long_right : Fd := ⟨0, 7, bd__law_long_right⟩
def fd_law : Fd := ⟨1, 12, bd_law⟩
def tbl : List Fd := [fd_is_integer, fd_is_run, fd_are_runs, fd_is_city, fd_read_number, fd_read_run, fd_read_point, fd_is_path, fd_format_runs, fd_format_city, fd_format_drive, fd_parse_city, fd_parse_drive, fd__law_source, fd__law_draw, fd__law_runs, fd__law_town, fd__law_note, fd__law_line, fd__law_both_ways, fd__law_point, fd__law_long_right, fd_law]
def T : Nat → Option Fd := fun i => tbl[i]?
def nms : List Str := [("is_integer" : Str), ("is_run" : Str), ("are_runs" : Str), ("is_city" : Str), ("read_number" : Str), ("read_run" : Str), ("read_point" : Str), ("is_path" : Str), ("format_runs" : Str), ("format_city" : Str), ("format_drive" : Str), ("parse_city" : Str), ("parse_drive" : Str), ("_law_source" : Str), ("_law_draw" : Str), ("_law_runs" : Str), ("_law_town" : Str), ("_law_note" : Str), ("_law_line" : Str), ("_law_both_ways" : Str), ("_law_point" : Str), ("_law_long_right" : Str), ("law" : Str)]
def gns : List Str := [("EAST" : Str), ("WEST" : Str), ("NORTH" : Str), ("SOUTH" : Str), ("SPACE" : Str), ("BAR" : Str), ("COMMA" : Str), ("DIGITS" : Str)]
def cns : List (Str × D) := [("EAST", .str "E"), ("WEST", .str "W"), ("NORTH", .str "N"), ("SOUTH", .str "S"), ("SPACE", .str " "), ("BAR", .str " | "), ("COMMA", .str ","), ("DIGITS", .str "0123456789"), ("", .ty "digits")]
def tbs : List (Str × List (Str × D)) := []
def gvs : List D := [.str "E", .str "W", .str "N", .str "S", .str " ", .str " | ", .str ",", .str "0123456789"]
def G : Nat → Option D := fun i => gvs[i]?
def W : Nat := 2 ^ 40
noncomputable abbrev CF (k : Nat) : CallSem := callF W G T k
end CC
namespace CC
open PySem PySem.Spec PyProof.Rows L2
def topS (i : Nat) : Stmt := PySem.Challenge.pw_cornercity_k41_texts_both_ways.main.body.getD i (.Pass ⟨0, 0, 0, 0⟩)
abbrev s_is_integer : Stmt := topS 10
abbrev s_is_run : Stmt := topS 11
abbrev s_are_runs : Stmt := topS 12
abbrev s_is_city : Stmt := topS 13
abbrev s_read_number : Stmt := topS 19
abbrev s_read_run : Stmt := topS 20
abbrev s_read_point : Stmt := topS 21
abbrev s_is_path : Stmt := topS 22
abbrev s_format_runs : Stmt := topS 23
abbrev s_format_city : Stmt := topS 24
abbrev s_format_drive : Stmt := topS 25
abbrev s_parse_city : Stmt := topS 26
abbrev s_parse_drive : Stmt := topS 27
abbrev s__law_source : Stmt := topS 29
abbrev s__law_draw : Stmt := topS 30
abbrev s__law_runs : Stmt := topS 31
abbrev s__law_town : Stmt := topS 32
abbrev s__law_note : Stmt := topS 33
abbrev s__law_line : Stmt := topS 34
abbrev s__law_both_ways : Stmt := topS 35
abbrev s__law_point : Stmt := topS 36
abbrev s__law_long_right : Stmt := topS 37
abbrev s_law : Stmt := topS 38
def d_is_integer : He.FnD := ⟨("is_integer", none), "is_integer", "is_integer", defArgs s_is_integer, defBody s_is_integer, defScope s_is_integer⟩
def d_is_run : He.FnD := ⟨("is_run", none), "is_run", "is_run", defArgs s_is_run, defBody s_is_run, defScope s_is_run⟩
def d_are_runs : He.FnD := ⟨("are_runs", none), "are_runs", "are_runs", defArgs s_are_runs, defBody s_are_runs, defScope s_are_runs⟩
def d_is_city : He.FnD := ⟨("is_city", none), "is_city", "is_city", defArgs s_is_city, defBody s_is_city, defScope s_is_city⟩
def d_read_number : He.FnD := ⟨("read_number", none), "read_number", "read_number", defArgs s_read_number, defBody s_read_number, defScope s_read_number⟩
def d_read_run : He.FnD := ⟨("read_run", none), "read_run", "read_run", defArgs s_read_run, defBody s_read_run, defScope s_read_run⟩
def d_read_point : He.FnD := ⟨("read_point", none), "read_point", "read_point", defArgs s_read_point, defBody s_read_point, defScope s_read_point⟩
def d_is_path : He.FnD := ⟨("is_path", none), "is_path", "is_path", defArgs s_is_path, defBody s_is_path, defScope s_is_path⟩
def d_format_runs : He.FnD := ⟨("format_runs", none), "format_runs", "format_runs", defArgs s_format_runs, defBody s_format_runs, defScope s_format_runs⟩
def d_format_city : He.FnD := ⟨("format_city", none), "format_city", "format_city", defArgs s_format_city, defBody s_format_city, defScope s_format_city⟩
def d_format_drive : He.FnD := ⟨("format_drive", none), "format_drive", "format_drive", defArgs s_format_drive, defBody s_format_drive, defScope s_format_drive⟩
def d_parse_city : He.FnD := ⟨("parse_city", none), "parse_city", "parse_city", defArgs s_parse_city, defBody s_parse_city, defScope s_parse_city⟩
def d_parse_drive : He.FnD := ⟨("parse_drive", none), "parse_drive", "parse_drive", defArgs s_parse_drive, defBody s_parse_drive, defScope s_parse_drive⟩
def d__law_source : He.FnD := ⟨("_law_source", none), "_law_source", "_law_source", defArgs s__law_source, defBody s__law_source, defScope s__law_source⟩
def d__law_draw : He.FnD := ⟨("_law_draw", none), "_law_draw", "_law_draw", defArgs s__law_draw, defBody s__law_draw, defScope s__law_draw⟩
def d__law_runs : He.FnD := ⟨("_law_runs", none), "_law_runs", "_law_runs", defArgs s__law_runs, defBody s__law_runs, defScope s__law_runs⟩
def d__law_town : He.FnD := ⟨("_law_town", none), "_law_town", "_law_town", defArgs s__law_town, defBody s__law_town, defScope s__law_town⟩
def d__law_note : He.FnD := ⟨("_law_note", none), "_law_note", "_law_note", defArgs s__law_note, defBody s__law_note, defScope s__law_note⟩
def d__law_line : He.FnD := ⟨("_law_line", none), "_law_line", "_law_line", defArgs s__law_line, defBody s__law_line, defScope s__law_line⟩
def d__law_both_ways : He.FnD := ⟨("_law_both_ways", none), "_law_both_ways", "_law_both_ways", defArgs s__law_both_ways, defBody s__law_both_ways, defScope s__law_both_ways⟩
def d__law_point : He.FnD := ⟨("_law_point", none), "_law_point", "_law_point", defArgs s__law_point, defBody s__law_point, defScope s__law_point⟩
def d__law_long_right : He.FnD := ⟨("_law_long_right", none), "_law_long_right", "_law_long_right", defArgs s__law_long_right, defBody s__law_long_right, defScope s__law_long_right⟩
def d_law : He.FnD := ⟨("law", none), "law", "law", defArgs s_law, defBody s_law, defScope s_law⟩
def fnl : List He.FnD := [d_is_integer, d_is_run, d_are_runs, d_is_city, d_read_number, d_read_run, d_read_point, d_is_path, d_format_runs, d_format_city, d_format_drive, d_parse_city, d_parse_drive, d__law_source, d__law_draw, d__law_runs, d__law_town, d__law_note, d__law_line, d__law_both_ways, d__law_point, d__law_long_right, d_law]
def fal : List He.Fa := [.glo "is_integer", .keep "is_integer", .glo "is_run", .keep "is_run", .glo "are_runs", .keep "are_runs", .glo "is_city", .keep "is_city", .glo "read_number", .keep "read_number", .glo "read_run", .keep "read_run", .glo "read_point", .keep "read_point", .glo "is_path", .keep "is_path", .glo "format_runs", .keep "format_runs", .glo "format_city", .keep "format_city", .glo "format_drive", .keep "format_drive", .glo "parse_city", .keep "parse_city", .glo "parse_drive", .keep "parse_drive", .glo "_law_source", .keep "_law_source", .glo "_law_draw", .keep "_law_draw", .glo "_law_runs", .keep "_law_runs", .glo "_law_town", .keep "_law_town", .glo "_law_note", .keep "_law_note", .glo "_law_line", .keep "_law_line", .glo "_law_both_ways", .keep "_law_both_ways", .glo "_law_point", .keep "_law_point", .glo "_law_long_right", .keep "_law_long_right", .glo "law", .keep "law", .free "len", .free "abs", .free "sum", .free "min", .free "max", .free "all", .free "any", .free "sorted", .free "repr", .free "int", .free "str", .free "list", .free "tuple", .free "set", .free "isinstance", .free "range", .free "zip", .free "enumerate", .free "bool", .free "dict", .free "ValueError", .glo "CityError", .exc "CityError", .glo "InvalidCity", .exc "InvalidCity", .glo "InvalidDrive", .exc "InvalidDrive", .glo "InvalidText", .exc "InvalidText"]
def lo0 : List PySem.Str := ["__name__", "CityError", "InvalidCity", "InvalidDrive", "InvalidText", "EAST", "WEST", "NORTH", "SOUTH", "is_integer", "is_run", "are_runs", "is_city", "SPACE", "BAR", "COMMA", "DIGITS", "read_number", "read_run", "read_point", "is_path", "format_runs", "format_city", "format_drive", "parse_city", "parse_drive", "_law_source", "_law_draw", "_law_runs", "_law_town"]
def lo1 : List PySem.Str := ["_law_note", "_law_line", "_law_both_ways", "_law_point", "_law_long_right"]
def loose : List PySem.Str := lo0 ++ lo1
abbrev RR : PySem.W.OpenRow := PySem.W.OpenLaw.row PySem.Challenge.rw_cornercity_k41_texts_both_ways
abbrev hk : PySem.W.Hook := hookC 4 fal fnl cns tbs
def ob (s : PySem.W.SharedT) : AlC := obsCG 4 fal fnl cns tbs (HandSHeadRun.getT s)
theorem ob_eq (s : PySem.W.SharedT) : ob s = hk.obs s.abs := obsCG_eq (HandSHeadRun.getT_eq s)
theorem run_f (w : World) : HandSHeadRun.RunEq RR (PySem.W.view RR.prog [38]) hk ob 20000 loose (w.withFollow "special-get-raises" false) := by
  intro os
  kernel_rfl
theorem run_t (w : World) : HandSHeadRun.RunEq RR (PySem.W.view RR.prog [38]) hk ob 20000 loose (w.withFollow "special-get-raises" true) := by
  intro os
  kernel_rfl
theorem run_top (w : World) : HandSHeadRun.RunEq RR (PySem.W.view RR.prog [38]) hk ob 20000 loose w :=
  PySem.W.byRow2 "special-get-raises" (P := fun w => HandSHeadRun.RunEq RR (PySem.W.view RR.prog [38]) hk ob 20000 loose w) run_f run_t w
open PySem PySem.W PySem.Calls PyProof.Rows in
theorem head_done (call : PySem.W.WalkO (PySem.W.view RR.prog [38]) loose (PySem.W.XL (PySem.W.view RR.prog [38]) []) hk.says RR.toRowW (HandSHeadRun.topDef RR.prog 38) [] fun f vs => PySem.call f vs) : PySem.Challenge.rw_cornercity_k41_texts_both_ways.Holds := by
  w_on; o_law
  refine HandSHeadRun.head_any (r := OpenLaw.row PySem.Challenge.rw_cornercity_k41_texts_both_ways) (q := view (OpenLaw.row PySem.Challenge.rw_cornercity_k41_texts_both_ways).prog [38]) (H := CC.hk) (ob := CC.ob) (M := 20000) (loose := CC.loose) (d := HandSHeadRun.topDef (OpenLaw.row PySem.Challenge.rw_cornercity_k41_texts_both_ways).prog 38) (kwd := []) CC.ob_eq
    (by kernel_rfl) (fun s => by kernel_rfl) CC.run_top (by kernel_rfl) (by kernel_rfl) (by kernel_rfl) (by rfl) (by first | assumption | decide +kernel) (by decide +kernel) ⟨rfl, rfl, rfl, rfl, rfl, by decide +kernel⟩ ?hw call
  case hw => w_witness2
theorem head_defs : (HandSHeadRun.topDef RR.prog 38).params.defaults = [] := by kernel_rfl
theorem head_name : (HandSHeadRun.topDef RR.prog 38).name = "law" := by kernel_rfl
end CC
namespace CC
open PySem PySem.Spec PyProof.Rows L2
section
variable {k : Nat} {v : D} {S : Sto} {Q : D → Sto → Prop} {E : Nat → List D → Sto → Prop}
@[simp ↓] theorem e_is_integer {low : Int} (hv : (tyOfD v S).isSome = true) : WR (CF (k + 1) f_is_integer [v, .int low] S) Q E = Q (.bl (isIntD v low)) S := by
  rw [cf_run (fd := fd_is_integer) rfl rfl]
  simp [fd_is_integer, bd_is_integer, startE, isi_int hv, isi_bool hv]
  cases v <;> simp [isIB, isBB, isIntD]
theorem e_is_run {a b : Str} (hv : Nice 2 v S) : WR (CF (k + 2) f_is_run [v, .tup [.str a, .str b]] S) Q E = Q (.bl (isRunD a b v)) S := by
  rw [cf_run (fd := fd_is_run) rfl rfl]
  simp [fd_is_run, bd_is_run, startE, isi_tuple hv.1]
  cases v with
  | tup ds =>
    have hn := (hv.2 ds rfl).2
    match ds, hn with
    | [], _ => simp [isTB, isRunD]
    | [x], _ => simp [isTB, isRunD_len]
    | _ :: _ :: _ :: r, _ =>
      rw [isRunD_len (by simp)]
      simp only [isTB, l_tup, optP_some, if_true, List.length_cons]
      rw [if_neg (by omega)]
    | [x, y], hn =>
      have hx := hn x (by simp)
      have hy := hn y (by simp)
      simp [isTB, isi_str hx.1]
      cases x with
      | str d =>
        simp [isSB, inSeq2, isRunD, hy.1]
        by_cases e : d = a ∨ d = b
        · have e' : (d == a || d == b) = true := by simpa using e
          simp only [e, if_true]
          rw [e']
          simp
        · have e' : (d == a || d == b) = false := by simpa using e
          simp only [e, if_false]
          rw [e']
          simp
      | _ => simp [isSB, isRunD]
  | _ => simp [isTB, isRunD]
theorem e_are_runs {a b : Str} (hv : Nice 3 v S) : WR (CF (k + 3) f_are_runs [v, .tup [.str a, .str b]] S) Q E = Q (.bl (areRunsD a b v)) S := by
  refine WR_eq fun {Q E} h => ?_
  rw [cf_run (fd := fd_are_runs) rfl rfl]
  simp [fd_are_runs, bd_are_runs, startE, isi_tuple hv.1]
  cases v with
  | tup ds =>
    obtain ⟨hl, hn⟩ := hv.2 ds rfl
    simp only [isTB, l_tup, optP_some, if_true]
    refine ite2 (fun e => ?_) (fun e => ?_)
    · have e' : ds = [] := List.length_eq_zero_iff.mp (by simpa using e)
      subst e'
      simpa [areRunsD] using h
    · refine lc_d (fun d => .bl (isRunD a b d)) hl (fun d hd => ?_) ?_
      · simp [e_is_run (hn d hd)]
      · have ne : ds.isEmpty = false := by cases ds <;> simp_all
        simp [blsOf_map]
        refine ite2 (fun e1 => ?_) (fun e1 => ?_)
        · have z : ds.all (isRunD a b) = false := by
            rw [Bool.eq_false_iff]
            intro z
            obtain ⟨d, hd, hf⟩ := e1
            rw [List.all_eq_true.mp z d hd] at hf
            cases hf
          simpa [areRunsD, ne, z] using h
        · have z : ds.all (isRunD a b) = true := by
            rw [List.all_eq_true]
            intro d hd
            cases hf : isRunD a b d with
            | true => rfl
            | false => exact absurd ⟨d, hd, hf⟩ e1
          rw [cut1]
          refine lc_m (m := ds.zip ds.tail) (enc := fun p => D.tup [p.1, p.2]) (fun p => .bl (fstS p.1 != fstS p.2)) (by simp only [List.length_zip, List.length_tail]; omega) (fun p hp => ?_) ?_
          · obtain ⟨r1, r2⟩ := zipRuns z hp
            obtain ⟨d1, c1, e1, g1⟩ := isRunD_str r1
            obtain ⟨d2, c2, e2, g2⟩ := isRunD_str r2
            simp [e1, e2, fstS, bne]
          · simp [blsOf_map]
            have ea : areRunsD a b (.tup ds) = ((ds.zip ds.tail).map fun p => fstS p.1 != fstS p.2).all id := by
              simp only [areRunsD, ne, z, List.all_map]
              rfl
            rw [ea] at h
            simpa using h
  | _ => simpa [isTB, areRunsD] using h
theorem e_is_city (hv : Nice 4 v S) : WR (CF (k + 4) f_is_city [v] S) Q E = Q (.bl (isCityD v)) S := by
  refine WR_eq fun {Q E} h => ?_
  rw [cf_run (fd := fd_is_city) rfl rfl]
  simp [fd_is_city, bd_is_city, startE, G, gvs, isi_tuple hv.1]
  cases v with
  | tup ds =>
    obtain ⟨hl, hn⟩ := hv.2 ds rfl
    simp only [isTB, l_tup, optP_some, if_true]
    refine ite2 (fun e => ?_) (fun e => ?_)
    · obtain ⟨x, y, rfl⟩ := two_of (by simpa using e)
      simp [e_are_runs (hn x (by simp)), e_are_runs (hn y (by simp))]
      refine ite2 (fun e1 => ?_) (fun e1 => ?_)
      · simpa [isCityD, e1] using h
      · have e1' : areRunsD "E" "W" x = false := by simpa using e1
        simpa [isCityD, e1'] using h
    · rw [isCityD_len (by omega)] at h
      simpa using h
  | _ => simpa [isTB, isCityD] using h
theorem w_draw {n : Nat} {b : SO} {c j : Int} (h : S[n]? = some b) (hb : BagOk b c) (hc : c < 2 ^ 60) (j0 : 0 < j) (j1 : j < 2 ^ 200) (hQ : ∀ r b', 0 ≤ r → r < j → BagOk b' (c + 1) → Q (.int r) (S.set n b')) : WR (CF (k + 1) f__law_draw [.loc n, .int j] S) Q E := by
  obtain ⟨a, m, t, rfl, h2, h3, h4, h5, h6⟩ := hb
  rw [cf_run (fd := fd__law_draw) rfl rfl]
  simp [fd__law_draw, bd__law_draw, startE, lst_at h]
  refine ite2 (fun ea => ?_) (fun ea => ?_)
  · refine ⟨j0, divOk_of j0 j1 (by omega), ?_⟩
    rw [setIx_at h (j := 0) rfl]
    simp
    exact hQ _ _ (Int.emod_nonneg _ (by omega)) (Int.emod_lt_of_pos _ j0) ⟨_, m, t, rfl, Int.ediv_nonneg h2 (by omega), h3, h4, h5, by omega⟩
  · rw [setIx_at h (j := 2) rfl]
    simp [lst_at (set_get h)]
    have t1 : t + 1 < 2 ^ 61 := by omega
    have b1 : 0 ≤ m + 179424673 * (t + 1) := by omega
    have b2 : m + 179424673 * (t + 1) < 2 ^ 200 := by
      have : (179424673 * (t + 1) : Int) < 2 ^ 100 := by omega
      omega
    have c0 : 0 ≤ (m + 179424673 * (t + 1)) ^ 3 % 100000000000000000000000000000000000000037 := Int.emod_nonneg _ (by decide)
    have c1 : (m + 179424673 * (t + 1)) ^ 3 % 100000000000000000000000000000000000000037 < 100000000000000000000000000000000000000037 := Int.emod_lt_of_pos _ (by decide)
    refine ⟨mulOk_of (k := 40) (l := 61) (by decide) (by decide) (by decide) (by omega) t1 (by decide) (by decide), powOk_of (k := 200) b1 b2 (by decide) (by decide) (by decide) (by decide), by decide +kernel,
      mulOk_of (k := 40) (l := 61) (by decide) (by decide) (by decide) (by omega) t1 (by decide) (by decide), ?_⟩
    generalize (m + 179424673 * (t + 1)) ^ 3 % 100000000000000000000000000000000000000037 = z at c0 c1 ⊢
    refine ⟨powOk_of (k := 200) (by omega) ?_ (by decide) (by decide) (by decide) (by decide), by decide +kernel, divOk_of (k := 30) (by decide) (by decide) (by decide), j0, ?_⟩
    · have : (22801763489 * (t + 1) : Int) < 2 ^ 110 := by omega
      omega
    · exact hQ _ _ (Int.emod_nonneg _ (by omega)) (Int.emod_lt_of_pos _ j0) ⟨a, m, t + 1, rfl, h2, h3, h4, by omega, by omega⟩
end
end CC
namespace CC
open PySem PySem.Spec PyProof.Rows L2 TL
def mkS (l : List Nat) : Str := ⟨l.toArray⟩
theorem tl_mkS (l : List Nat) : tl (mkS l) = l := rfl
theorem mkS_tl (x : Str) : mkS (tl x) = x := mk_tl x
theorem mkS_len (l : List Nat) : (mkS l).length = l.length := by
  show l.toArray.size = _
  rw [List.size_toArray]
theorem mkS_app (a b : List Nat) : mkS a ++ mkS b = mkS (a ++ b) := ext_tl (by rw [tl_append]; rfl)
theorem mkS_inj {a b : List Nat} (h : mkS a = mkS b) : a = b := by
  have := congrArg tl h
  exact this
def numS (n : Nat) : Str := mkS (numL n)
theorem numS_eq (n : Nat) : Str.ofString (toString ((n : Nat) : Int)) = numS n := ext_tl (tl_num n)
theorem numS_of {c : Int} (h : 0 ≤ c) : Str.ofString (toString c) = numS c.toNat := by
  obtain ⟨n, rfl⟩ := Int.eq_ofNat_of_zero_le h
  exact numS_eq n
theorem numL_head : ∀ n : Nat, 0 < n → ∃ c r, numL n = c :: r ∧ 49 ≤ c := fun n => by
  induction n using Nat.strongRecOn with
  | _ n ih =>
    intro h0
    by_cases h : n < 10
    · exact ⟨48 + n, [], numL_lt h, by omega⟩
    · obtain ⟨c, r, e, hc⟩ := ih (n / 10) (by omega) (by omega)
      exact ⟨c, r ++ [48 + n % 10], by rw [numL_step (by omega), e]; rfl, hc⟩
theorem num0 : numL 0 = [48] := numL_lt (by decide)
theorem dig_in : ∀ c : Nat, 48 ≤ c → c ≤ 57 → (!(Builtin.Str.occurrences ("0123456789" : Str) ⟨#[c]⟩ 0 ("0123456789" : Str).length 1).isEmpty) = true := by
  intro c h1 h2
  obtain ⟨d, rfl⟩ : ∃ d, c = 48 + d := ⟨c - 48, by omega⟩
  have hd : d < 10 := by omega
  have key : ∀ d : Fin 10, (!(Builtin.Str.occurrences ("0123456789" : Str) ⟨#[48 + d.val]⟩ 0 ("0123456789" : Str).length 1).isEmpty) = true := by decide +kernel
  exact key ⟨d, hd⟩
section
variable {k : Nat} {v : D} {S : Sto} {Q : D → Sto → Prop} {E : Nat → List D → Sto → Prop}
theorem in_digits {c : Nat} (h : 48 ≤ c ∧ c ≤ 57) : cmpD .In (.str ⟨#[c]⟩) (.str "0123456789") S = some true := by
  show some (!(Builtin.Str.occurrences ("0123456789" : Str) ⟨#[c]⟩ 0 ("0123456789" : Str).length 1).isEmpty) = some true
  rw [dig_in c h.1 h.2]
theorem bls_true : ∀ l : List Nat, blsOf (l.map fun _ => D.bl true) = some (l.map fun _ => true) := fun l => by
  induction l with
  | nil => rfl
  | cons c l ih =>
    show (blsOf (l.map fun _ => D.bl true)).map (true :: ·) = _
    rw [ih]
    rfl
theorem e_intF {n : Nat} (hl : (numL n).length ≤ 4300) : WR (intBF [.str (numS n)] S) Q E = Q (.int (n : Nat)) S := by
  have h1 : PySem.intText? (numS n) = some ((n : Nat) : Int) := by
    rw [← numS_eq]
    exact int_num hl
  have h2 : (numS n).length ≤ 4300 := by
    unfold numS
    rw [mkS_len]
    exact hl
  show WR (match PySem.intText? (numS n) with
    | some n' => if (numS n).length ≤ 4300 then .ok (.int n') S else .bad
    | none => .bad) Q E = _
  rw [h1]
  show WR (if (numS n).length ≤ 4300 then .ok (.int ((n : Nat) : Int)) S else .bad) Q E = _
  rw [if_pos h2]
  rfl
theorem w_number {n : Nat} (hl : (numL n).length ≤ 4300) (hQ : Q (.int (n : Nat)) S) : WR (CF (k + 1) f_read_number [.str (numS n)] S) Q E := by
  have hd := numL_digits n
  have hne := numL_ne n
  have e0 : ∀ S, cmpD .Eq (.str (numS n)) (.str "") S = some false := fun S => by
    show some (numS n == "") = _
    congr 1
    rw [beq_eq_false_iff_ne]
    intro e
    exact hne (mkS_inj (e.trans rfl))
  rw [cf_run (fd := fd_read_number) rfl rfl]
  show Ws (run W (CF k) G bd_read_number [some (.str (numS n)), none] S) _
  unfold bd_read_number
  have lz : (numL n).length ≤ sizeLine := Nat.le_trans hl (by decide)
  refine s_seq (fun ρ S1 => S1 = S ∧ ρ = [some (.str (numS n)), none]) ?_ ?_
  · simp [e0]
    show WR (lcl (.ds ((numL n).map fun c => D.str ⟨#[c]⟩)) _ _ _ _ _ _ _ _) _ _
    refine lc_m (m := numL n) (enc := fun c => D.str ⟨#[c]⟩) (fun _ => .bl true) lz (fun c hc => ?_) ?_
    · simp [G, gvs, in_digits (hd c hc)]
    · rw [fr_new (ltL_map' fun _ => by simp)]
      have e1 : (lstD S (.fl ((numL n).map fun _ => D.bl true))).bind blsOf = some ((numL n).map fun _ => true) := bls_true _
      rw [e1]
      simp
  rintro ρ S1 ⟨rfl, rfl⟩
  obtain ⟨c0, r, hc⟩ : ∃ c0 r, numL n = c0 :: r := by
    cases h : numL n with
    | nil => exact absurd h hne
    | cons c r => exact ⟨c, r, rfl⟩
  have ix : ∀ S, ixD (.str (numS n)) (.int 0) S = some (.str ⟨#[c0]⟩) := fun S => by
    have hz : (numS n).length ≤ sizeLine := by unfold numS; rw [mkS_len]; exact lz
    show (if (numS n).length ≤ sizeLine then (atI (numL n) 0).map fun c => D.str ⟨#[c]⟩ else none) = _
    have ha : atI (c0 :: r) ((0 : Nat) : Int) = some c0 := atI_nat rfl
    rw [if_pos hz, hc, show (0 : Int) = ((0 : Nat) : Int) from rfl, ha]
    rfl
  have iq := fun Q E => e_intF (S := S1) (Q := Q) (E := E) hl
  by_cases h0 : n = 0
  · subst h0
    have hc0 : c0 = 48 := by rw [num0] at hc; injection hc with h; exact h.symm
    subst hc0
    have ne : ∀ S, cmpD .NotEq (.str ⟨#[48]⟩) (.str "0") S = some false := fun S => by with_unfolding_all rfl
    have es : numS 0 = "0" := by unfold numS; rw [num0]; rfl
    rw [es] at iq ix
    simp [ix, ne, es]
    rw [iq]
    simp
    exact hQ
  · obtain ⟨c, r', e, h49⟩ := numL_head n (by omega)
    have ecc : c = c0 := by rw [hc] at e; injection e with e1 _; exact e1.symm
    have ne : ∀ S, cmpD .NotEq (.str ⟨#[c0]⟩) (.str "0") S = some true := fun S => by
      show some (!((⟨#[c0]⟩ : Str) == "0")) = _
      congr 1
      rw [Bool.not_eq_true', beq_eq_false_iff_ne]
      intro z
      have := congrArg TL.tl z
      have t0 : TL.tl ("0" : Str) = [48] := by with_unfolding_all rfl
      rw [t0] at this
      injection this with h _
      omega
    simp [ix, ne]
    rw [iq]
    simp
    exact hQ
end
end CC
namespace CC
open PySem PySem.Spec PyProof.Rows L2 TL
section
variable {k : Nat} {v : D} {S : Sto} {Q : D → Sto → Prop} {E : Nat → List D → Sto → Prop}
@[simp] theorem asStr_str {x : Str} : asStrF [.str x] S = .ok (.str x) S := rfl
theorem strsD_map : ∀ ys : List Str, strsD (ys.map D.str) = some ys
  | [] => rfl
  | y :: ys => by
    show (strsD (ys.map D.str)).map (y :: ·) = _
    rw [strsD_map ys]
    rfl
theorem e_joiF {x : Str} {ys : List Str} (h : (ys.map (·.length)).sum + ys.length * x.length ≤ 16777216) : WR (joiF [.str x, .fl (ys.map D.str)] S) Q E = Q (.str (Txt.join x ys)) S := by
  show WR (match (lstD S (.fl (ys.map D.str))).bind strsD with
    | some ys => if (ys.map (·.length)).sum + ys.length * x.length ≤ 16777216 then .ok (.str (Txt.join x ys)) S else .bad
    | none => .bad) Q E = _
  have e : (lstD S (.fl (ys.map D.str))).bind strsD = some ys := strsD_map ys
  rw [e]
  show WR (if (ys.map (·.length)).sum + ys.length * x.length ≤ 16777216 then .ok (.str (Txt.join x ys)) S else .bad) Q E = _
  rw [if_pos h]
  rfl
theorem e_splF {x y : Str} (hy : (y.length == 0) = false) (hx : x.length + 2 ≤ sizeLine) : WR (splF [.str x, .str y] S) Q E = Q (.loc S.length) (S ++ [.lst ((Txt.split x y).map D.str)]) := by
  show WR (if (!(y.length == 0) && decide (x.length + 2 ≤ sizeLine)) = true then mk (.lst ((Txt.split x y).map D.str)) S else .bad) Q E = _
  rw [hy, decide_eq_true hx]
  rfl
theorem cut_tail {c : Nat} {l : List Nat} : L2.cutS (mkS (c :: l)) (some 1) none = mkS l := by
  refine ext_tl ?_
  show ((mkS (c :: l)).cps.toList.drop (HT.sIx (mkS (c :: l)).length 0 (some 1))).take (HT.sIx (mkS (c :: l)).length (mkS (c :: l)).length none - HT.sIx (mkS (c :: l)).length 0 (some 1)) = l
  have e1 : HT.sIx (mkS (c :: l)).length 0 (some 1) = 1 := by
    rw [mkS_len, show (some (1 : Int)) = some ((1 : Nat) : Int) from rfl, HT.sIx_nat, List.length_cons]
    omega
  rw [e1, HT.sIx_none, mkS_len, List.length_cons]
  show ((c :: l).drop 1).take (l.length + 1 - 1) = l
  rw [List.drop_succ_cons, List.drop_zero, Nat.add_sub_cancel, List.take_length]
def wordR (c : Nat) (n : Nat) : Str := mkS (c :: numL n)
theorem w_readrun {c n : Nat} (hl : (numL n).length ≤ 4300) (hQ : Q (.tup [.str (mkS [c]), .int (n : Nat)]) S) : WR (CF (k + 2) f_read_run [.str (wordR c n)] S) Q E := by
  have lz : (mkS (c :: numL n)).length ≤ sizeLine := by
    rw [mkS_len, List.length_cons]
    have : 4301 ≤ sizeLine := by decide
    omega
  have rn : ∀ Q E (S : Sto), Q (.int (n : Nat)) S → WR (CF (k + 1) f_read_number [.str (numS n)] S) Q E := fun Q E S h => w_number (k := k) hl h
  have sl : ∀ S, slD (.str (mkS (c :: numL n))) (some 1) none S = .ok (.str (numS n)) S := fun S => by
    show (if (mkS (c :: numL n)).length ≤ sizeLine then R.ok (D.str (L2.cutS (mkS (c :: numL n)) (some 1) none)) S else .bad) = _
    rw [if_pos lz, cut_tail]
    rfl
  have ix : ∀ S, ixD (.str (mkS (c :: numL n))) (.int 0) S = some (.str (mkS [c])) := fun S => by
    show (if (mkS (c :: numL n)).length ≤ sizeLine then (atI (c :: numL n) 0).map fun c => D.str ⟨#[c]⟩ else none) = _
    have ha : atI (c :: numL n) ((0 : Nat) : Int) = some c := atI_nat rfl
    rw [if_pos lz, show (0 : Int) = ((0 : Nat) : Int) from rfl, ha]
    rfl
  rw [cf_run (fd := fd_read_run) rfl rfl]
  show Ws (run W (CF (k + 1)) G bd_read_run [some (.str (mkS (c :: numL n))), none] S) _
  unfold bd_read_run
  generalize CF (k + 1) = C at *
  refine s_seq (fun ρ S1 => S1 = S ∧ ρ = [some (.str (mkS (c :: numL n))), some (.int (n : Nat))]) ?_ ?_
  · simp [sl]
    refine rn _ _ _ ?_
    simp
  rintro ρ S1 ⟨rfl, rfl⟩
  simp [isNon, ix]
  exact hQ
structure SmR (p : Str × Int) : Prop where
  let_ : ∃ c, p.1 = mkS [c] ∧ 65 ≤ c ∧ c ≤ 90
  lo : 0 ≤ p.2
  hi : p.2 < 10 ^ 310
theorem SmR.nl {p : Str × Int} (h : SmR p) : (numL p.2.toNat).length ≤ 310 := numL_len (by decide) (by have := h.lo; have := h.hi; omega)
def wR (p : Str × Int) : Str := p.1 ++ numS p.2.toNat
theorem SmR.wr {p : Str × Int} (h : SmR p) : ∃ c, p.1 = mkS [c] ∧ 65 ≤ c ∧ c ≤ 90 ∧ wR p = wordR c p.2.toNat := by
  obtain ⟨c, e, h1, h2⟩ := h.let_
  exact ⟨c, e, h1, h2, by unfold wR wordR; rw [e]; unfold numS; rw [mkS_app]; rfl⟩
theorem wR_len {p : Str × Int} (h : SmR p) : (wR p).length ≤ 311 := by
  obtain ⟨c, _, _, _, e⟩ := h.wr
  have := h.nl
  rw [e]
  unfold wordR
  rw [mkS_len, List.length_cons]
  omega
theorem sum_le {α : Type} {f : α → Nat} {B : Nat} : ∀ {l : List α}, (∀ x ∈ l, f x ≤ B) → (l.map f).sum ≤ B * l.length
  | [], _ => by simp
  | x :: l, h => by
    have h1 := h x List.mem_cons_self
    have h2 := sum_le fun y hy => h y (List.mem_cons_of_mem _ hy)
    rw [List.map_cons, List.sum_cons, List.length_cons, Nat.mul_add, Nat.mul_one]
    omega
def runsT (l : Runs) : Str := Txt.join " " (l.map wR)
theorem log_ok {c : Int} (h0 : 0 ≤ c) (h1 : c < 10 ^ 310) : decide (c.natAbs.log2 < 1900) = true := by
  rw [decide_eq_true_iff]
  by_cases z : c.natAbs = 0
  · rw [z]; decide
  · rw [Nat.log2_lt z]
    have : (10 : Int) ^ 310 < 2 ^ 1900 := by decide +kernel
    have e : (c.natAbs : Int) = c := Int.natAbs_of_nonneg h0
    have : (c.natAbs : Int) < ((2 ^ 1900 : Nat) : Int) := by rw [e]; push_cast; omega
    omega
theorem w_fruns {l : Runs} (hl : l.length ≤ 1000) (hs : ∀ p ∈ l, SmR p) (hQ : Q (.str (runsT l)) S) : WR (CF (k + 1) f_format_runs [encR l] S) Q E := by
  have jo : ((l.map wR).map (·.length)).sum + (l.map wR).length * (" " : Str).length ≤ 16777216 := by
    have h1 : ((l.map wR).map (·.length)).sum ≤ 311 * l.length := by
      rw [List.map_map]
      exact sum_le fun p hp => wR_len (hs p hp)
    have h2 : (" " : Str).length = 1 := by with_unfolding_all rfl
    rw [h2, List.length_map]
    omega
  rw [cf_run (fd := fd_format_runs) rfl rfl]
  show Ws (run W (CF k) G bd_format_runs [some (encR l), none, none] S) _
  unfold bd_format_runs
  have so : ∀ S, srcOf (encR l) S = some (.ds (l.map encP)) := fun _ => rfl
  have hG : G 4 = some (.str " ") := rfl
  simp [so, hG]
  refine lc_m (m := l) (enc := encP) (fun p => .str (wR p)) (by unfold sizeLine; omega) (fun p hp => ?_) ?_
  · have e : Str.ofString p.2.repr = numS p.2.toNat := numS_of (hs p hp).lo
    have h1 := wR_len (hs p hp)
    have h2 : (wR p).length = p.1.length + (numS p.2.toNat).length := Str.length_append _ _
    simp [encP]
    rw [e]
    exact ⟨by simpa using log_ok (hs p hp).lo (hs p hp).hi, by rw [← h2]; unfold sizeLine; omega, rfl⟩
  · have e : l.map (fun p => D.str (wR p)) = (l.map wR).map D.str := by rw [List.map_map]; rfl
    rw [e, fr_new (ltL_map' fun _ => by simp), e_joiF jo]
    simp
    exact hQ
theorem pre_snd {a b : Nat} {S l : List Nat} (h : l[1]? ≠ some b) : pre (a :: b :: S) l = false := by
  cases hp : pre (a :: b :: S) l with
  | false => rfl
  | true =>
    have e : l.take (a :: b :: S).length = a :: b :: S := eq_of_beq hp
    refine absurd ?_ h
    have e2 : (l.take (a :: b :: S).length)[1]? = some b := by rw [e]; rfl
    rwa [List.getElem?_take_of_lt (by simp)] at e2
theorem bar_tl : tl (" | " : Str) = [32, 124, 32] := by with_unfolding_all rfl
theorem spc_tl : tl (" " : Str) = [32] := by with_unfolding_all rfl
theorem split_bar {x y : Str} (hx : 124 ∉ tl x) (hy : 124 ∉ tl y) : Txt.split (x ++ " | " ++ y) " | " = [x, y] := by
  refine map_tl_inj ?_
  rw [split_spl _ _ (by rw [bar_tl]; simp) (kind_ok (by with_unfolding_all rfl)), tl_append, tl_append, bar_tl, List.append_assoc]
  rw [spl_part (by simp) ?_, spl_last ?_, List.nil_append, List.nil_append]
  · rfl
  · intro i hi
    refine pre_snd fun e => hy ?_
    rw [List.getElem?_drop] at e
    exact List.mem_of_getElem? e
  · intro i hi
    refine pre_snd fun e => ?_
    rw [List.getElem?_drop] at e
    by_cases c : i + 1 < (tl x).length
    · rw [List.getElem?_append_left c] at e
      exact hx (List.mem_of_getElem? e)
    · rw [List.getElem?_append_right (by omega), show i + 1 - (tl x).length = 0 by omega] at e
      injection e with e
      exact absurd e (by decide)
theorem wR_tl {p : Str × Int} (h : SmR p) : ∃ c, 65 ≤ c ∧ c ≤ 90 ∧ tl (wR p) = c :: numL p.2.toNat := by
  obtain ⟨c, _, h1, h2, e⟩ := h.wr
  exact ⟨c, h1, h2, by rw [e]; rfl⟩
theorem wR_free {p : Str × Int} (h : SmR p) : 32 ∉ tl (wR p) ∧ 124 ∉ tl (wR p) := by
  obtain ⟨c, h1, h2, e⟩ := wR_tl h
  rw [e]
  constructor
  · intro z
    rcases List.mem_cons.mp z with z | z
    · omega
    · exact numL_free (.inl (by decide)) z
  · intro z
    rcases List.mem_cons.mp z with z | z
    · omega
    · exact numL_free (.inr (by decide)) z
theorem joinL_mem {s : Nat} {S : List Nat} : ∀ {ps : List (List Nat)}, s ∈ joinL S ps → s ∈ S ∨ ∃ p ∈ ps, s ∈ p
  | [], h => by cases h
  | [p], h => .inr ⟨p, List.mem_cons_self, h⟩
  | p :: q :: r, h => by
    have h : s ∈ p ++ (S ++ joinL S (q :: r)) := h
    rcases List.mem_append.mp h with h | h
    · exact .inr ⟨p, List.mem_cons_self, h⟩
    · rcases List.mem_append.mp h with h | h
      · exact .inl h
      · rcases joinL_mem h with h | ⟨t, ht, h⟩
        · exact .inl h
        · exact .inr ⟨t, List.mem_cons_of_mem _ ht, h⟩
theorem runsT_free {l : Runs} (hs : ∀ p ∈ l, SmR p) : 124 ∉ tl (runsT l) := by
  unfold runsT
  rw [join_eq, tl_join, spc_tl]
  intro h
  rcases joinL_mem h with h | ⟨t, ht, h⟩
  · cases h with
    | tail _ h => cases h
  · rw [List.map_map] at ht
    obtain ⟨p, hp, rfl⟩ := List.mem_map.mp ht
    exact (wR_free (hs p hp)).2 h
theorem split_runs {l : Runs} (hn : l ≠ []) (hs : ∀ p ∈ l, SmR p) : Txt.split (runsT l) " " = l.map wR := by
  unfold runsT
  refine split_join spc_tl (by with_unfolding_all rfl) (fun e => hn (List.map_eq_nil_iff.mp e)) fun w hw => ?_
  obtain ⟨p, hp, rfl⟩ := List.mem_map.mp hw
  exact (wR_free (hs p hp)).1
theorem joinL_len {S : List Nat} : ∀ {ps : List (List Nat)}, (joinL S ps).length ≤ (ps.map List.length).sum + ps.length * S.length
  | [] => by simp [joinL]
  | [p] => by simp [joinL]
  | p :: q :: r => by
    have ih := joinL_len (S := S) (ps := q :: r)
    show (p ++ (S ++ joinL S (q :: r))).length ≤ _
    rw [List.length_append, List.length_append, List.map_cons, List.sum_cons, List.length_cons, Nat.add_mul, Nat.one_mul]
    omega
theorem runsT_len {l : Runs} (hs : ∀ p ∈ l, SmR p) : (runsT l).length ≤ 312 * l.length := by
  rw [len_tl]
  unfold runsT
  rw [join_eq, tl_join, spc_tl]
  refine Nat.le_trans joinL_len ?_
  rw [List.map_map, List.length_map, List.length_map, List.map_map]
  have : (l.map ((List.length ∘ tl) ∘ wR)).sum ≤ 311 * l.length := sum_le fun p hp => by
    show (tl (wR p)).length ≤ 311
    rw [← len_tl]
    exact wR_len (hs p hp)
  have e : [32].length = 1 := rfl
  rw [e]
  omega
def cityT (a b : Runs) : Str := runsT a ++ " | " ++ runsT b
end
end CC
namespace CC
open PySem PySem.Spec PyProof.Rows L2 TL
section
variable {k : Nat} {v : D} {S : Sto} {Q : D → Sto → Prop} {E : Nat → List D → Sto → Prop}
theorem fr_ext {J : List SO} {m : Nat} {ds : List D} (hm : m = (S ++ J).length) (q : ltL S.length ds = true) : WR (trim S (frzD (.loc m) ((S ++ J) ++ [.lst ds]))) Q E = Q (.fl ds) S := by
  have g : ((S ++ J) ++ [SO.lst ds])[m]? = some (.lst ds) := by rw [hm]; simp
  rw [fr_at g, q]
  have e : ((S ++ J) ++ [SO.lst ds]).set m (.frz ds) = S ++ (J ++ [.frz ds]) := by
    rw [hm, List.set_append_right _ _ (Nat.le_refl _)]
    simp
  rw [e, cut_app]
theorem w_fcity {a b : Runs} (t : Town a b) (la : a.length ≤ 1000) (lb : b.length ≤ 1000) (ha : ∀ p ∈ a, SmR p) (hb : ∀ p ∈ b, SmR p) (hQ : Q (.str (cityT a b)) S) : WR (CF (k + 5) f_format_city [encC a b] S) Q E := by
  have ic : ∀ Q E (S : Sto), Q (.bl true) S → WR (CF (k + 4) f_is_city [encC a b] S) Q E := fun Q E S h => by
    rw [e_is_city (k := k) t.nice, t.city]
    exact h
  have fa : ∀ Q E (S : Sto), Q (.str (runsT a)) S → WR (CF (k + 4) f_format_runs [encR a] S) Q E := fun Q E S h => w_fruns (k := k + 3) la ha h
  have fb : ∀ Q E (S : Sto), Q (.str (runsT b)) S → WR (CF (k + 4) f_format_runs [encR b] S) Q E := fun Q E S h => w_fruns (k := k + 3) lb hb h
  have i0 : ∀ S, ixD (encC a b) (.int 0) S = some (encR a) := fun _ => rfl
  have i1 : ∀ S, ixD (encC a b) (.int 1) S = some (encR b) := fun _ => rfl
  have hG : G 5 = some (.str " | ") := rfl
  have l1 := runsT_len ha
  have l2 := runsT_len hb
  have l3 : (runsT a ++ " | ").length = (runsT a).length + (" | " : Str).length := Str.length_append _ _
  have l4 : (" | " : Str).length = 3 := by with_unfolding_all rfl
  rw [cf_run (fd := fd_format_city) rfl rfl]
  show Ws (run W (CF (k + 4)) G bd_format_city [some (encC a b)] S) _
  unfold bd_format_city
  generalize CF (k + 4) = C at *
  generalize encC a b = ec at *
  refine s_seq (fun ρ S1 => S1 = S ∧ ρ = [some ec]) ?_ ?_
  · simp
    refine ic _ _ _ ?_
    simp
  rintro ρ S1 ⟨rfl, rfl⟩
  simp [i0, i1]
  refine fa _ _ _ ?_
  simp [hG]
  refine ⟨by unfold sizeLine; omega, ?_⟩
  refine fb _ _ _ ?_
  simp
  refine ⟨by unfold sizeLine; omega, ?_⟩
  exact hQ
theorem w_pcity {a b : Runs} (t : Town a b) (la : a.length ≤ 1000) (lb : b.length ≤ 1000) (ha : ∀ p ∈ a, SmR p) (hb : ∀ p ∈ b, SmR p) (na : a ≠ []) (nb : b ≠ []) (hQ : Q (encC a b) S) : WR (CF (k + 5) f_parse_city [.str (cityT a b)] S) Q E := by
  have ic : ∀ Q E (S : Sto), Q (.bl true) S → WR (CF (k + 4) f_is_city [encC a b] S) Q E := fun Q E S h => by
    rw [e_is_city (k := k) t.nice, t.city]
    exact h
  have rr : ∀ (p : Str × Int), SmR p → ∀ Q E (S : Sto), Q (encP p) S → WR (CF (k + 4) f_read_run [.str (wR p)] S) Q E := fun p hp Q E S h => by
    obtain ⟨c, e1, _, _, e2⟩ := hp.wr
    rw [e2]
    refine w_readrun (k := k + 2) (Nat.le_trans hp.nl (by decide)) ?_
    have e3 : encP p = .tup [.str (mkS [c]), .int (p.2.toNat : Nat)] := by
      unfold encP
      rw [e1, Int.toNat_of_nonneg hp.lo]
    rw [← e3]
    exact h
  have hG : G 5 = some (.str " | ") := rfl
  have hG2 : G 4 = some (.str " ") := rfl
  have l1 := runsT_len ha
  have l2 := runsT_len hb
  have l4 : (" | " : Str).length = 3 := by with_unfolding_all rfl
  have l5 : (" " : Str).length = 1 := by with_unfolding_all rfl
  have lc : (cityT a b).length + 2 ≤ sizeLine := by
    unfold cityT
    rw [Str.length_append, Str.length_append, l4]
    unfold sizeLine
    omega
  have sc : ∀ Q E (S : Sto), WR (splF [.str (cityT a b), .str " | "] S) Q E = Q (.loc S.length) (S ++ [.lst [.str (runsT a), .str (runsT b)]]) := fun Q E S => by
    rw [e_splF (by rw [l4]; rfl) lc]
    unfold cityT
    rw [split_bar (runsT_free ha) (runsT_free hb)]
    rfl
  have sr : ∀ l : Runs, l ≠ [] → l.length ≤ 1000 → (∀ p ∈ l, SmR p) → ∀ Q E (S : Sto), WR (splF [.str (runsT l), .str " "] S) Q E = Q (.loc S.length) (S ++ [.lst ((l.map wR).map D.str)]) := fun l hn hl hs Q E S => by
    have := runsT_len hs
    rw [e_splF (by rw [l5]; rfl) (by unfold sizeLine; omega), split_runs hn hs]
  rw [cf_run (fd := fd_parse_city) rfl rfl]
  show Ws (run W (CF (k + 4)) G bd_parse_city [some (.str (cityT a b)), none, none, none] S) _
  unfold bd_parse_city
  generalize CF (k + 4) = C at *
  generalize cityT a b = ct at *
  refine s_seq (fun ρ S1 => S1 = S ∧ ρ = [some (.str ct), none, none, none]) ?_ ?_
  · have hi : ∀ S, isinst (.str ct) (.ty "str") S = some true := fun S => by with_unfolding_all rfl
    simp [hi]
  rintro ρ S1 ⟨rfl, rfl⟩
  refine s_seq (fun ρ S2 => S2 = S1 ∧ ρ = [some (.str ct), some (encC a b), none, none]) ?_ ?_
  · simp [hG, sc]
    obtain ⟨T, hT⟩ : ∃ T, T = S1 ++ [SO.lst [D.str (runsT a), D.str (runsT b)]] := ⟨_, rfl⟩
    have gT : lstAt T S1.length = some ([a, b].map fun l => D.str (runsT l)) := by
      rw [hT]
      unfold lstAt
      rw [List.getElem?_append_right (Nat.le_refl _), Nat.sub_self]
      rfl
    rw [← hT]
    refine lcS_m (m := [a, b]) (enc := fun l => D.str (runsT l)) (walk_lst gT) encR (by simp [sizeLine]) (fun l hl => ?_) ?_
    · have hl2 : l ≠ [] ∧ l.length ≤ 1000 ∧ ∀ p ∈ l, SmR p := by
        simp only [List.mem_cons, List.not_mem_nil, or_false] at hl
        rcases hl with rfl | rfl
        · exact ⟨na, la, ha⟩
        · exact ⟨nb, lb, hb⟩
      obtain ⟨hn, hl3, hs⟩ := hl2
      simp [hG2, sr l hn hl3 hs]
      obtain ⟨V, hV⟩ : ∃ V, V = T ++ [SO.lst (l.map (D.str ∘ wR))] := ⟨_, rfl⟩
      have gV : lstAt V T.length = some (l.map fun p => D.str (wR p)) := by
        rw [hV]
        unfold lstAt
        rw [List.getElem?_append_right (Nat.le_refl _), Nat.sub_self]
        rfl
      rw [← hV]
      refine lcS_m (m := l) (enc := fun p => D.str (wR p)) (walk_lst gV) encP (by unfold sizeLine; omega) (fun p hp => ?_) ?_
      · simp
        refine rr p (hs p hp) _ _ _ ?_
        simp
      · rw [hV, fr_ext rfl (ltL_map' fun _ => by simp [encP])]
        simp
        rfl
    · rw [hT, fr_ext rfl (by simp [encR, ltL_map'])]
      simp
      rfl
  rintro ρ S2 ⟨rfl, rfl⟩
  simp
  refine ic _ _ _ ?_
  simp
  exact hQ
end
end CC
namespace CC
open PySem PySem.Spec PyProof.Rows L2 TL
section
variable {k : Nat} {v : D} {S : Sto} {Q : D → Sto → Prop} {E : Nat → List D → Sto → Prop}
structure Sp (p : Int × Int) : Prop where
  x0 : 0 ≤ p.1
  x1 : p.1 < 10 ^ 1000
  y0 : 0 ≤ p.2
  y1 : p.2 < 10 ^ 1000
def wP (p : Int × Int) : Str := numS p.1.toNat ++ "," ++ numS p.2.toNat
theorem com_tl : tl ("," : Str) = [44] := by with_unfolding_all rfl
theorem com_len : ("," : Str).length = 1 := by with_unfolding_all rfl
theorem numS_len {n : Nat} : (numS n).length = (numL n).length := mkS_len _
theorem nl1000 {c : Int} (h0 : 0 ≤ c) (h1 : c < 10 ^ 1000) : (numL c.toNat).length ≤ 1000 := numL_len (by decide) (by
  obtain ⟨B, hB⟩ : ∃ B : Nat, B = 10 ^ 1000 := ⟨_, rfl⟩
  have e : (10 : Int) ^ 1000 = (B : Nat) := by rw [hB]; push_cast; rfl
  rw [e] at h1
  rw [← hB]
  omega)
theorem wP_len {p : Int × Int} (h : Sp p) : (wP p).length ≤ 2001 := by
  have h1 := nl1000 h.x0 h.x1
  have h2 := nl1000 h.y0 h.y1
  unfold wP
  rw [Str.length_append, Str.length_append, com_len, numS_len, numS_len]
  omega
theorem wP_tl {p : Int × Int} : tl (wP p) = numL p.1.toNat ++ (44 :: numL p.2.toNat) := by
  unfold wP
  rw [tl_append, tl_append, com_tl, List.append_assoc]
  rfl
theorem wP_free {p : Int × Int} : 32 ∉ tl (wP p) := by
  rw [wP_tl]
  intro h
  rcases List.mem_append.mp h with h | h
  · exact numL_free (.inl (by decide)) h
  · rcases List.mem_cons.mp h with h | h
    · cases h
    · exact numL_free (.inl (by decide)) h
theorem split_pt {p : Int × Int} : Txt.split (wP p) "," = [numS p.1.toNat, numS p.2.toNat] := by
  have e : wP p = Txt.join "," [numS p.1.toNat, numS p.2.toNat] := by
    refine ext_tl ?_
    rw [join_eq, tl_join, wP_tl, com_tl]
    rfl
  rw [e]
  refine split_join com_tl (by with_unfolding_all rfl) (by simp) fun w hw => ?_
  simp only [List.mem_cons, List.not_mem_nil, or_false] at hw
  rcases hw with rfl | rfl <;> exact numL_free (.inl (by decide))
theorem w_readpt {p : Int × Int} (h : Sp p) (hQ : Q (encPt p) S) : WR (CF (k + 2) f_read_point [.str (wP p)] S) Q E := by
  have rn : ∀ (c : Int), 0 ≤ c → (numL c.toNat).length ≤ 1000 → ∀ Q E (S : Sto), Q (.int c) S → WR (CF (k + 1) f_read_number [.str (numS c.toNat)] S) Q E := fun c h0 h1 Q E S h => by
    refine w_number (k := k) (Nat.le_trans h1 (by decide)) ?_
    rw [Int.toNat_of_nonneg h0]
    exact h
  have hG : G 6 = some (.str ",") := rfl
  have lw := wP_len h
  have n1 := nl1000 h.x0 h.x1
  have n2 := nl1000 h.y0 h.y1
  have x0 := h.x0
  have y0 := h.y0
  clear h
  have sp : ∀ Q E (S : Sto), WR (splF [.str (wP p), .str ","] S) Q E = Q (.loc S.length) (S ++ [.lst [.str (numS p.1.toNat), .str (numS p.2.toNat)]]) := fun Q E S => by
    rw [e_splF (by rw [com_len]; rfl) (by unfold sizeLine; omega), split_pt]
    rfl
  rw [cf_run (fd := fd_read_point) rfl rfl]
  show Ws (run W (CF (k + 1)) G bd_read_point [some (.str (wP p)), none, none] S) _
  unfold bd_read_point
  generalize CF (k + 1) = C at *
  generalize wP p = w at *
  obtain ⟨P1, hP1⟩ : ∃ P : Env → Sto → Prop, ∀ ρ S1, P ρ S1 ↔ ∃ K u, S1 = S ++ K ∧ ρ = [some (.str w), some (.fl [.int p.1, .int p.2]), u] := ⟨_, fun _ _ => Iff.rfl⟩
  refine s_seq P1 ?_ ?_
  · rw [s_fz]
    simp [hG, sp]
    obtain ⟨T, hT⟩ : ∃ T, T = S ++ [SO.lst [D.str (numS p.1.toNat), D.str (numS p.2.toNat)]] := ⟨_, rfl⟩
    have gT : lstAt T S.length = some ([p.1, p.2].map fun c => D.str (numS c.toNat)) := by
      rw [hT]
      unfold lstAt
      rw [List.getElem?_append_right (Nat.le_refl _), Nat.sub_self]
      rfl
    rw [← hT]
    refine lcS_m (m := [p.1, p.2]) (enc := fun c => D.str (numS c.toNat)) (walk_lst gT) D.int (by simp [sizeLine]) (fun c hc => ?_) ?_
    · have hc2 : 0 ≤ c ∧ (numL c.toNat).length ≤ 1000 := by
        simp only [List.mem_cons, List.not_mem_nil, or_false] at hc
        rcases hc with rfl | rfl
        · exact ⟨x0, n1⟩
        · exact ⟨y0, n2⟩
      simp
      refine rn c hc2.1 hc2.2 _ _ _ ?_
      simp
    · rw [hT]
      show Ws (fzE 1 _ _ _) _
      rw [List.append_assoc]
      refine fz_any0 rfl (ds := [.int p.1, .int p.2]) ?_ (by simp) fun G1 => ?_
      · rw [← List.append_assoc, List.getElem?_append_right (Nat.le_refl _), Nat.sub_self]
        rfl
      · exact (hP1 _ _).mpr ⟨G1, _, rfl, rfl⟩
  intro ρ S1 hz
  obtain ⟨K, u, rfl, rfl⟩ := (hP1 _ _).mp hz
  have ni : ∀ S, cmpD .NotIn .non (.fl [.int p.1, .int p.2]) S = some true := fun S => by
    show (inD .non (.fl [.int p.1, .int p.2]) S).map (!·) = _
    rw [in_cl (n := 0) (m := 0) (b := false) rfl (fun d hd => by
      simp only [List.mem_cons, List.not_mem_nil, or_false] at hd
      rcases hd with rfl | rfl <;> rfl) (by decide) (by decide) (by simp)]
    rfl
  simp [ni]
  exact hQ
def driveT (l : List (Int × Int)) : Str := Txt.join " " (l.map wP)
theorem lstD_ty {x : D} {ds : List D} (h : lstM S x = some ds) : isinst x (.ty "list") S = some true := by
  have e : isLB x S = true := isLB_of (by rw [h]; rfl)
  have hv : (tyOfD x S).isSome = true := by
    cases x with
    | loc n =>
      have h' : (match S[n]? with
        | some (.lst ds) => some ds
        | _ => none) = some ds := h
      show (match S[n]? with
        | some (.lst _) => some "list"
        | some (.dic _) => some "dict"
        | _ => none).isSome = true
      split at h'
      · rename_i q; rw [q]; rfl
      · cases h'
    | fl _ => rfl
    | _ => cases h
  rw [isi_list hv, e]
theorem w_ispath {x : D} {l : List (Int × Int)} (hx : lstM S x = some (l.map encPt)) (hn : l ≠ []) (hl : l.length ≤ 1000) (h0 : ∀ p ∈ l, 0 ≤ p.1 ∧ 0 ≤ p.2) (hQ : Q (.bl true) S) : WR (CF (k + 2) f_is_path [x] S) Q E := by
  have ii : ∀ (c : Int), 0 ≤ c → ∀ Q E (S : Sto), Q (.bl true) S → WR (CF (k + 1) f_is_integer [.int c, .int 0] S) Q E := fun c h0 Q E S h => by
    rw [e_is_integer (k := k) rfl]
    have : isIntD (.int c) 0 = true := by simpa [isIntD] using h0
    rw [this]
    exact h
  have hi := lstD_ty hx
  have hd := lstD_M hx
  have ne : cmpD .Eq x (.fl []) S = some false := by
    rw [eq_nil hd]
    cases l with
    | nil => exact absurd rfl hn
    | cons p l => rfl
  rw [cf_run (fd := fd_is_path) rfl rfl]
  show Ws (run W (CF (k + 1)) G bd_is_path [some x, none, none] S) _
  unfold bd_is_path
  generalize CF (k + 1) = C at *
  refine s_seq (fun ρ S1 => S1 = S ∧ ρ = [some x, none, none]) ?_ ?_
  · simp [hi, ne]
  rintro ρ S1 ⟨rfl, rfl⟩
  refine s_seq (fun ρ S2 => S2 = S1 ∧ ∃ u, ρ = [some x, u, none]) ?_ ?_
  · obtain ⟨I, hI⟩ : ∃ I : Nat → Env → Sto → Prop, ∀ i ρ S2, I i ρ S2 ↔ S2 = S1 ∧ ∃ u, ρ = [some x, u, none] := ⟨_, fun _ _ _ => Iff.rfl⟩
    have I0 : I 0 [some x, none, none] S1 := (hI _ _ _).mpr ⟨rfl, _, rfl⟩
    simp
    refine so_of hd fun src w => ?_
    have hw := w.size
    rw [List.length_map] at hw
    refine ws_forl l.length I (fun i ρ S2 hi2 hz => ?_) (fun ρ S2 hz => ?_) _ 0 _ _ (Nat.zero_le _) (by omega) I0
    · obtain ⟨rfl, u, rfl⟩ := (hI _ _ _).mp hz
      have hp := h0 l[i] (List.getElem_mem hi2)
      refine ⟨encPt l[i], _, by rw [w.get i, List.getElem?_map, List.getElem?_eq_getElem hi2]; rfl, rfl, ?_⟩
      have hI2 : ∀ u, I (i + 1) [some x, u, none] S2 := fun u => (hI _ _ _).mpr ⟨rfl, _, rfl⟩
      generalize l[i] = p at *
      have ht : ∀ S, isinst (D.tup [D.int p.1, D.int p.2]) (.ty "tuple") S = some true := fun S => by with_unfolding_all rfl
      simp [encPt, ht]
      refine lc_m (m := [p.1, p.2]) (enc := D.int) (fun _ => .bl true) (by simp [sizeLine]) (fun c hc => ?_) ?_
      · have hc0 : 0 ≤ c := by
          simp only [List.mem_cons, List.not_mem_nil, or_false] at hc
          rcases hc with rfl | rfl
          · exact hp.1
          · exact hp.2
        simp
        refine ii c hc0 _ _ _ ?_
        simp
      · rw [fr_new (ltL_map' fun _ => by simp)]
        have e1 : (lstD S2 (.fl ([p.1, p.2].map fun _ => D.bl true))).bind blsOf = some [true, true] := rfl
        rw [e1]
        simp
        exact hI2 _
    · obtain ⟨rfl, u, rfl⟩ := (hI _ _ _).mp hz
      exact ⟨by rw [w.get]; simp, rfl, u, rfl⟩
  rintro ρ S2 ⟨rfl, u, rfl⟩
  simp
  exact hQ
theorem driveT_len {l : List (Int × Int)} (hs : ∀ p ∈ l, Sp p) : (driveT l).length ≤ 2002 * l.length := by
  rw [len_tl]
  unfold driveT
  rw [join_eq, tl_join, spc_tl]
  refine Nat.le_trans joinL_len ?_
  rw [List.map_map, List.length_map, List.length_map, List.map_map]
  have : (l.map ((List.length ∘ tl) ∘ wP)).sum ≤ 2001 * l.length := sum_le fun p hp => by
    show (tl (wP p)).length ≤ 2001
    rw [← len_tl]
    exact wP_len (hs p hp)
  have e : [32].length = 1 := rfl
  rw [e]
  omega
theorem split_drive {l : List (Int × Int)} (hn : l ≠ []) : Txt.split (driveT l) " " = l.map wP := by
  unfold driveT
  refine split_join spc_tl (by with_unfolding_all rfl) (fun e => hn (List.map_eq_nil_iff.mp e)) fun w hw => ?_
  obtain ⟨p, hp, rfl⟩ := List.mem_map.mp hw
  exact wP_free
theorem log_big {c : Int} (h0 : 0 ≤ c) (h1 : c < 10 ^ 1000) : c.natAbs.log2 < 14000 := by
  by_cases z : c.natAbs = 0
  · rw [z]; decide
  · rw [Nat.log2_lt z]
    have h2 : (10 : Int) ^ 1000 < ((2 ^ 14000 : Nat) : Int) := by decide +kernel
    have e : (c.natAbs : Int) = c := Int.natAbs_of_nonneg h0
    have h3 : (c.natAbs : Int) < ((2 ^ 14000 : Nat) : Int) := by rw [e]; exact Int.lt_trans h1 h2
    exact Int.ofNat_lt.mp h3
theorem e_strBF {c : Int} (h0 : 0 ≤ c) (h1 : c < 10 ^ 1000) : WR (strBF [.int c] S) Q E = Q (.str (numS c.toNat)) S := by
  show WR (if c.natAbs.log2 < 14000 then .ok (.str (toString c)) S else .bad) Q E = _
  rw [if_pos (log_big h0 h1)]
  show Q (.str (Str.ofString (toString c))) S = _
  rw [numS_of h0]
theorem w_fdrive {x : D} {l : List (Int × Int)} (hx : lstM S x = some (l.map encPt)) (hn : l ≠ []) (hl : l.length ≤ 1000) (hs : ∀ p ∈ l, Sp p) (hQ : Q (.str (driveT l)) S) : WR (CF (k + 3) f_format_drive [x] S) Q E := by
  have ip : ∀ Q E, Q (.bl true) S → WR (CF (k + 2) f_is_path [x] S) Q E := fun Q E h => w_ispath (k := k) hx hn hl (fun p hp => ⟨(hs p hp).x0, (hs p hp).y0⟩) h
  have hd := lstD_M hx
  have hG : G 4 = some (.str " ") := rfl
  have hG2 : G 6 = some (.str ",") := rfl
  have jo : ((l.map wP).map (·.length)).sum + (l.map wP).length * (" " : Str).length ≤ 16777216 := by
    have h1 : ((l.map wP).map (·.length)).sum ≤ 2001 * l.length := by
      rw [List.map_map]
      exact sum_le fun p hp => wP_len (hs p hp)
    have h2 : (" " : Str).length = 1 := by with_unfolding_all rfl
    rw [h2, List.length_map]
    omega
  rw [cf_run (fd := fd_format_drive) rfl rfl]
  show Ws (run W (CF (k + 2)) G bd_format_drive [some x, none, none] S) _
  unfold bd_format_drive
  generalize CF (k + 2) = C at *
  refine s_seq (fun ρ S1 => S1 = S ∧ ρ = [some x, none, none]) ?_ ?_
  · simp
    refine ip _ _ ?_
    simp
  rintro ρ S1 ⟨rfl, rfl⟩
  simp [hG]
  refine so_of hd fun src w => ?_
  refine lcS_m (m := l) (enc := encPt) w (fun p => .str (wP p)) (by unfold sizeLine; omega) (fun p hp => ?_) ?_
  · have h := hs p hp
    have h1 := nl1000 h.x0 h.x1
    have h2 := nl1000 h.y0 h.y1
    have h3 : (numS p.1.toNat ++ ",").length = (numS p.1.toNat).length + (",": Str).length := Str.length_append _ _
    have q1 := fun Q E (S : Sto) => e_strBF (S := S) (Q := Q) (E := E) h.x0 h.x1
    have q2 := fun Q E (S : Sto) => e_strBF (S := S) (Q := Q) (E := E) h.y0 h.y1
    clear h
    simp [encPt, hG2, q1, q2]
    refine ⟨by rw [numS_len, com_len]; unfold sizeLine; omega, ?_, rfl⟩
    rw [h3, numS_len, com_len, numS_len]
    unfold sizeLine
    omega
  · have e : l.map (fun p => D.str (wP p)) = (l.map wP).map D.str := by rw [List.map_map]; rfl
    rw [e, fr_new (ltL_map' fun _ => by simp), e_joiF jo]
    simp
    exact hQ
theorem w_pdrive {l : List (Int × Int)} (hn : l ≠ []) (hl : l.length ≤ 1000) (hs : ∀ p ∈ l, Sp p) (hQ : ∀ K n, (S ++ K)[n]? = some (.lst (l.map encPt)) → S.length ≤ n → Q (.loc n) (S ++ K)) : WR (CF (k + 3) f_parse_drive [.str (driveT l)] S) Q E := by
  have rp : ∀ p, Sp p → ∀ Q E (S : Sto), Q (encPt p) S → WR (CF (k + 2) f_read_point [.str (wP p)] S) Q E := fun p hp Q E S h => w_readpt (k := k) hp h
  have hG : G 4 = some (.str " ") := rfl
  have l5 : (" " : Str).length = 1 := by with_unfolding_all rfl
  have ld := driveT_len hs
  have sd : ∀ Q E (S : Sto), WR (splF [.str (driveT l), .str " "] S) Q E = Q (.loc S.length) (S ++ [.lst ((l.map wP).map D.str)]) := fun Q E S => by
    rw [e_splF (by rw [l5]; rfl) (by unfold sizeLine; omega), split_drive hn]
  rw [cf_run (fd := fd_parse_drive) rfl rfl]
  show Ws (run W (CF (k + 2)) G bd_parse_drive [some (.str (driveT l)), none, none] S) _
  unfold bd_parse_drive
  generalize CF (k + 2) = C at *
  generalize driveT l = dt at *
  refine s_seq (fun ρ S1 => S1 = S ∧ ρ = [some (.str dt), none, none]) ?_ ?_
  · have hi : ∀ S, isinst (.str dt) (.ty "str") S = some true := fun S => by with_unfolding_all rfl
    simp [hi]
  rintro ρ S1 ⟨rfl, rfl⟩
  obtain ⟨P1, hP1⟩ : ∃ P : Env → Sto → Prop, ∀ ρ S2, P ρ S2 ↔ ∃ a u, S2 = S1 ++ [a, .lst (l.map encPt)] ∧ ρ = [some (.str dt), some (.loc (S1.length + 1)), u] := ⟨_, fun _ _ => Iff.rfl⟩
  refine s_seq P1 ?_ ?_
  · simp [hG, sd]
    obtain ⟨T, hT⟩ : ∃ T, T = S1 ++ [SO.lst (l.map (D.str ∘ wP))] := ⟨_, rfl⟩
    have gT : lstAt T S1.length = some (l.map fun p => D.str (wP p)) := by
      rw [hT]
      unfold lstAt
      rw [List.getElem?_append_right (Nat.le_refl _), Nat.sub_self]
      rfl
    have lT : T.length = S1.length + 1 := by rw [hT]; simp
    rw [← hT]
    refine lcS_m (m := l) (enc := fun p => D.str (wP p)) (walk_lst gT) encPt (by unfold sizeLine; omega) (fun p hp => ?_) ?_
    · simp
      refine rp p (hs p hp) _ _ _ ?_
      simp
    · refine (hP1 _ _).mpr ⟨SO.lst (l.map (D.str ∘ wP)), none, ?_, ?_⟩
      · rw [hT, List.append_assoc]
        rfl
      · rw [lT]
  intro ρ S2 hz
  obtain ⟨a, u, rfl, rfl⟩ := (hP1 _ _).mp hz
  have g : (S1 ++ [a, .lst (l.map encPt)])[S1.length + 1]? = some (.lst (l.map encPt)) := new_get1
  have ni : cmpD .In .non (.loc (S1.length + 1)) (S1 ++ [a, .lst (l.map encPt)]) = some false := by
    show inD .non (.loc (S1.length + 1)) _ = _
    exact in_loc g (n := 0) (m := 1) (b := false) rfl (fun d hd => by
      obtain ⟨p, _, rfl⟩ := List.mem_map.mp hd
      rfl) (by decide) (by decide) (by
        constructor
        · intro z; cases z
        · intro z
          obtain ⟨p, _, e⟩ := List.mem_map.mp z
          cases e)
  have hq := hQ [a, .lst (l.map encPt)] (S1.length + 1) g (Nat.le_succ _)
  generalize S1 ++ [a, .lst (l.map encPt)] = T at *
  refine s_seq (fun ρ S3 => S3 = T ∧ ρ = [some (.str dt), some (.loc (S1.length + 1)), u]) ?_ ?_
  · simp [ni]
  rintro ρ S3 ⟨rfl, rfl⟩
  simp
  rw [decide_eq_false (by omega), cut_false]
  exact hq
end
end CC
namespace CC
open PySem PySem.Spec PyProof.Rows L2
theorem fr_bag {S J : Sto} {n m : Nat} {b b' : SO} {ds : List D} {Q : D → Sto → Prop} {E : Nat → List D → Sto → Prop} (hb : ∀ j, b'.lt j = true) (q : ∀ j, ltL j ds = true) (hm : m = S.length + J.length) : WR (trim (S.set n b ++ J) (frzD (.loc m) ((S.set n b' ++ J) ++ [.lst ds]))) Q E = Q (.fl ds) (S.set n b' ++ J) := by
  have lm : m = (S.set n b' ++ J).length := by rw [hm, List.length_append, List.length_set]
  have g : ((S.set n b' ++ J) ++ [SO.lst ds])[m]? = some (.lst ds) := by rw [lm]; simp
  rw [fr_at g, q]
  have e : ((S.set n b' ++ J) ++ [SO.lst ds]).set m (.frz ds) = (S.set n b' ++ J) ++ [.frz ds] := by
    rw [lm, List.set_append_right _ _ (Nat.le_refl _)]
    simp
  rw [e, cut_gen (by simp) ?_]
  intro i so hi
  by_cases hl : i < S.length
  · rw [List.getElem?_append_left (by simpa using hl)] at hi
    by_cases hn : n = i
    · subst hn
      rw [List.getElem?_set_self hl] at hi
      cases hi
      exact .inr (hb _)
    · rw [List.getElem?_set_ne hn] at hi
      refine .inl ?_
      rw [List.getElem?_append_left (by simpa using hl), List.getElem?_set_ne hn]
      exact hi
  · refine .inl ?_
    rw [List.getElem?_append_right (by simpa using hl), List.length_set] at hi ⊢
    exact hi
section
variable {k : Nat} {v : D} {S : Sto} {Q : D → Sto → Prop} {E : Nat → List D → Sto → Prop}
theorem w_source {n i : Nat} {ns : List Int} (h : S[n]? = some (.frz (ns.map D.int))) (hi : i < 1000) (hQ : ∀ b, BagOk b 0 → Q (.loc S.length) (S ++ [b])) : WR (CF (k + 1) f__law_source [.loc n, .int i] S) Q E := by
  rw [cf_run (fd := fd__law_source) rfl rfl]
  have pw : powOk 10 18 = true := by decide +kernel
  have pw2 : powOk 10 40 = true := by decide +kernel
  have mo : mulOk 39916801 (i : Nat) = true := mulOk_of (k := 40) (l := 40) (by decide) (by decide) (by decide) (by omega) (by omega) (by decide) (by decide)
  have fin : ∀ c : Int, Q (.loc S.length) (S ++ [.lst [.int (if (1000000000000000000 : Int) < (if c < 0 then -c else c) then (if c < 0 then -c else c) - 1000000000000000000 else 0), .int (c % 10000000000000000000000000000000000000121 + 39916801 * (i : Nat)), .int 0]]) := fun c => by
    have c0 : 0 ≤ c % 10000000000000000000000000000000000000121 := Int.emod_nonneg _ (by decide)
    have c1 : c % 10000000000000000000000000000000000000121 < 10000000000000000000000000000000000000121 := Int.emod_lt_of_pos _ (by decide)
    refine hQ _ ⟨_, _, _, rfl, ?_, by omega, by omega, by omega, by omega⟩
    split <;> split <;> omega
  simp [fd__law_source, bd__law_source, startE, lst_frz h]
  split
  · rename_i hlt
    have ha : atI (ns.map D.int) (i : Nat) = some (.int (ns[i]'(by omega))) := by
      rw [atI_of (by omega) (by simpa using hlt)]
      simp
    rw [ha]
    generalize ns[i]'(by omega) = c
    simp [pw, pw2, mo]
    exact fin c
  · refine ⟨pw, pw2, mo, ?_⟩
    simpa using fin 0
theorem w_runs {n : Nat} {b : SO} {c mo wi : Int} {A B z : Str} (hab : A ≠ B) (z0 : ∀ S, ixD (.str z) (.int 0) S = some (.str A)) (z1 : ∀ S, ixD (.str z) (.int 1) S = some (.str B)) (h : S[n]? = some b) (hb : BagOk b c) (hc : c < 2 ^ 59) (m0 : 0 < mo) (m1 : mo ≤ 20) (w0 : 0 < wi) (w1 : wi ≤ 10 ^ 30)
    (hQ : ∀ l b', okR A B l = true → (l.length : Int) ≤ mo → BndR (10 ^ 30) l → BagOk b' (c + 100) → Q (encR l) (S.set n b')) : WR (CF (k + 2) f__law_runs [.loc n, .str z, .int mo, .int wi] S) Q E := by
  rw [cf_run (fd := fd__law_runs) rfl rfl]
  simp [fd__law_runs, bd__law_runs, startE]
  refine w_draw h hb (by omega) (by decide) (by decide) fun t b1 r0 r1 hb1 => ?_
  simp
  refine w_draw (old_get (set_get h)) hb1 (by omega) m0 (by omega) fun m b2 q0 q1 hb2 => ?_
  have hn := old_lt h
  rw [old_set (set_get h), List.set_set]
  simp [small62_of (i := 1 + m) (by omega) (by omega)]
  obtain ⟨L, hL⟩ : ∃ L, L = S.length := ⟨_, rfl⟩
  rw [← hL]
  obtain ⟨J, hJ⟩ : ∃ J : Nat → Env → Sto → Prop, ∀ i ρ S1, J i ρ S1 ↔ ∃ (l : Runs) (b' : SO) (u6 u7 : Option D), ρ = [some (.loc n), some (.str z), some (.int mo), some (.int wi), some (.int t), some (.loc L), u6, u7] ∧ l.length = i ∧ S1 = S.set n b' ++ [.lst (l.map encP)] ∧ BagOk b' (c + 2 + 3 * (i : Nat)) ∧ AltR A B t l ∧ BndR (10 ^ 30) l := ⟨_, fun _ _ _ => Iff.rfl⟩
  refine ws_range J ?_ ?_ ((hJ _ _ _).mpr ⟨[], b2, _, _, rfl, rfl, rfl, hb2.le (by omega), (by intro j p h; simp at h), (by intro p h; cases h)⟩)
  · intro i ρ S1 hi hz
    obtain ⟨l, b', u6, u7, rfl, hl, rfl, hb', ha, hB⟩ := (hJ _ _ _).mp hz
    have gL : ∀ b' x, (S.set n b' ++ [x])[L]? = some x := fun b' x => by rw [hL]; have : (S.set n b').length = S.length := List.length_set; rw [← this]; simp
    simp
    refine w_draw (j := 3) (old_get (set_get h)) hb' (by omega) (by decide) (by decide) fun c1 b3 c10 c11 hb3 => ?_
    rw [old_set (set_get h), List.set_set]
    simp
    refine w_draw (j := wi) (old_get (set_get h)) hb3 (by omega) w0 (by omega) fun c2 b4 c20 c21 hb4 => ?_
    rw [old_set (set_get h), List.set_set]
    have ad : ∀ T, binD .Add (.int 1) (.int c2) T = R.ok (.int (1 + c2)) T := fun _ => rfl
    rw [ad, w_ok, fr_bag (fun j => hb4.ltS) (fun j => by simp) (by simp)]
    refine w_draw (j := 3) (old_get (set_get h)) hb4 (by omega) (by decide) (by decide) fun q b5 q0 q1 hb5 => ?_
    rw [old_set (set_get h), List.set_set]
    have fin : ∀ x r, x = (if (t + (i : Nat)) % 2 = 0 then A else B) → 0 ≤ r → r < 10 ^ 30 → J (i + 1) [some (.loc n), some (.str z), some (.int mo), some (.int wi), some (.int t), some (.loc L), some (.int (i : Nat)), some (.int (1 + r))] (S.set n b5 ++ [.lst (l.map encP ++ [.tup [.str x, .int (1 + r)]])]) := by
      intro x r hx r0 r1
      refine (hJ _ _ _).mpr ⟨l ++ [(x, 1 + r)], b5, _, _, rfl, by simp [hl], by rw [List.map_append]; rfl, hb5.le (by omega), ha.add (by rw [hl]; exact hx), hB.add (by show 1 ≤ 1 + r; omega) (by show 1 + r ≤ 10 ^ 30; omega)⟩
    have last : ∀ r, 0 ≤ r → r < 10 ^ 30 → isLst (.loc L) (S.set n b5 ++ [.lst (l.map encP)]) = true ∧ optP (ixD (.str z) (.int ((t + (i : Nat)) % 2)) (S.set n b5 ++ [.lst (l.map encP)])) fun a_1 =>
        WR (mtD .append (.loc L) [.tup [a_1, .int (1 + r)]] (S.set n b5 ++ [.lst (l.map encP)])) (fun x S1 => J (i + 1) [some (.loc n), some (.str z), some (.int mo), some (.int wi), some (.int t), some (.loc L), some (.int (i : Nat)), some (.int (1 + r))] S1) (fun c q S1 => E c q (cutS S (ltL L q) S1)) := fun r r0 r1 => by
      refine ⟨isLst_at (gL b5 _), ?_⟩
      rcases (by omega : (t + (i : Nat)) % 2 = 0 ∨ (t + (i : Nat)) % 2 = 1) with e | e
      · rw [e, z0]
        simp [mt_append (gL b5 _)]
        refine ⟨by unfold sizeLine; omega, ?_⟩
        have := fin A r (by rw [if_pos e]) r0 r1
        rw [List.set_append_right _ _ (by rw [List.length_set]; omega)]
        simpa [hL] using this
      · rw [e, z1]
        simp [mt_append (gL b5 _)]
        refine ⟨by unfold sizeLine; omega, ?_⟩
        have := fin B r (by rw [if_neg (by omega)]) r0 r1
        rw [List.set_append_right _ _ (by rw [List.length_set]; omega)]
        simpa [hL] using this
    have lq : q = 0 ∨ q = 1 ∨ q = 2 := by omega
    rcases lq with rfl | rfl | rfl
    · rw [show ∀ T, ixD (D.fl [D.int 1, D.int (1 + c1), D.int (1 + c2)]) (D.int 0) T = some (.int (1 + 0)) from fun _ => rfl]
      have z := last 0 (by decide) (by decide)
      simp only [optP] at z
      exact z
    · rw [show ∀ T, ixD (D.fl [D.int 1, D.int (1 + c1), D.int (1 + c2)]) (D.int 1) T = some (.int (1 + c1)) from fun _ => rfl]
      have z := last c1 c10 (by omega)
      simp only [optP] at z
      exact z
    · rw [show ∀ T, ixD (D.fl [D.int 1, D.int (1 + c1), D.int (1 + c2)]) (D.int 2) T = some (.int (1 + c2)) from fun _ => rfl]
      have z := last c2 c20 (by omega)
      simp only [optP] at z
      exact z
  · intro ρ S1 hz
    obtain ⟨l, b', u6, u7, rfl, hl, rfl, hb', ha, hB⟩ := (hJ _ _ _).mp hz
    have gL : (S.set n b' ++ [SO.lst (l.map encP)])[L]? = some (.lst (l.map encP)) := by rw [hL]; have : (S.set n b').length = S.length := List.length_set; rw [← this]; simp
    show Ws (fzE 5 _ _ _) _
    rw [fz_old (m := L) rfl gL (by simp)]
    simp
    have e : (S.set n b' ++ [SO.lst (l.map encP)]).set L (.frz (l.map encP)) = S.set n b' ++ [.frz (l.map encP)] := by
      rw [List.set_append_right _ _ (by rw [List.length_set]; omega)]
      simp [hL]
    have lt : l.all ((fun d => D.lt L d) ∘ encP) = true := List.all_eq_true.mpr fun p _ => lt_encP
    rw [e, lt, cut_set_app hb'.ltS]
    exact hQ l b' (okR_alt hab (by omega) ha hB) (by omega) hB (hb'.le (by omega))
theorem w_town {n : Nat} {b : SO} {c mo wi : Int} (h : S[n]? = some b) (hb : BagOk b c) (hc : c < 2 ^ 58) (m0 : 0 < mo) (m1 : mo ≤ 20) (w0 : 0 < wi) (w1 : wi ≤ 10 ^ 30)
    (hQ : ∀ x y b', TownB x y → BagOk b' (c + 200) → Q (encC x y) (S.set n b')) : WR (CF (k + 3) f__law_town [.loc n, .int mo, .int wi] S) Q E := by
  rw [cf_run (fd := fd__law_town) rfl rfl]
  simp [fd__law_town, bd__law_town, startE]
  refine w_runs (A := "E") (B := "W") (by decide) (fun _ => rfl) (fun _ => rfl) h hb (by omega) m0 m1 w0 w1 fun x b1 ox lx bx hb1 => ?_
  simp
  refine w_runs (A := "N") (B := "S") (by decide) (fun _ => rfl) (fun _ => rfl) (set_get h) hb1 (by omega) m0 m1 w0 w1 fun y b2 oy ly by_ hb2 => ?_
  simp
  have := hQ x y b2 ⟨ox, oy, by omega, by omega, bx, by_⟩ (hb2.le (by omega))
  simpa [encC] using this
end
end CC
namespace CC
open PySem PySem.Spec PyProof.Rows L2 TL
def sfx (l : List (List Nat)) : List Nat := l.flatMap fun w => w ++ [32]
theorem sfx_join : ∀ {l : List (List Nat)}, l ≠ [] → sfx l = joinL [32] l ++ [32]
  | [], h => absurd rfl h
  | [w], _ => by simp [sfx, joinL]
  | w :: x :: l, _ => by
    have ih := sfx_join (l := x :: l) (by simp)
    have e : sfx (w :: x :: l) = (w ++ [32]) ++ sfx (x :: l) := rfl
    rw [e, ih]
    show _ = (w ++ ([32] ++ joinL [32] (x :: l))) ++ [32]
    simp
theorem sfx_app {a b : List (List Nat)} : sfx (a ++ b) = sfx a ++ sfx b := by simp [sfx]
theorem sfx_len {n : Nat} : ∀ {l : List (List Nat)}, (∀ w ∈ l, w.length ≤ n) → (sfx l).length ≤ (n + 1) * l.length
  | [], _ => by simp [sfx]
  | w :: l, h => by
    have h1 := h w List.mem_cons_self
    have h2 := sfx_len (l := l) fun x hx => h x (List.mem_cons_of_mem _ hx)
    have e : sfx (w :: l) = (w ++ [32]) ++ sfx l := rfl
    have e2 : (w :: l).length = l.length + 1 := rfl
    have e3 : [32].length = 1 := rfl
    rw [e, List.length_append, List.length_append, e2, e3, Nat.mul_add, Nat.mul_one]
    omega
theorem cut_last {l : List Nat} {c : Nat} : L2.cutS (mkS (l ++ [c])) none (some (-1)) = mkS l := by
  refine ext_tl ?_
  show ((mkS (l ++ [c])).cps.toList.drop (HT.sIx (mkS (l ++ [c])).length 0 none)).take (HT.sIx (mkS (l ++ [c])).length (mkS (l ++ [c])).length (some (-1)) - HT.sIx (mkS (l ++ [c])).length 0 none) = l
  have e1 : HT.sIx (mkS (l ++ [c])).length (mkS (l ++ [c])).length (some (-1)) = l.length := by
    rw [mkS_len, List.length_append]
    show HT.sIx (l.length + 1) (l.length + 1) (some (-1)) = _
    unfold HT.sIx
    simp
    try omega
  rw [e1, HT.sIx_none]
  show ((l ++ [c]).drop 0).take (l.length - 0) = l
  simp
section
variable {k : Nat} {v : D} {S : Sto} {Q : D → Sto → Prop} {E : Nat → List D → Sto → Prop}
theorem runsT_tl {l : Runs} : tl (runsT l) = joinL [32] (l.map fun p => tl (wR p)) := by
  unfold runsT
  rw [join_eq, tl_join, spc_tl, List.map_map]
  rfl
theorem driveT_tl {l : List (Int × Int)} : tl (driveT l) = joinL [32] (l.map fun p => tl (wP p)) := by
  unfold driveT
  rw [join_eq, tl_join, spc_tl, List.map_map]
  rfl
theorem str_add {a b : List Nat} {x : Str} (hx : tl x = b) : (mkS a) ++ x = mkS (a ++ b) := ext_tl (by rw [tl_append, hx]; rfl)
theorem e_note {a b : Runs} (la : a.length ≤ 1000) (lb : b.length ≤ 1000) (ha : ∀ p ∈ a, SmR p) (hb : ∀ p ∈ b, SmR p) (na : a ≠ []) (nb : b ≠ []) (hQ : Q (.str (cityT a b)) S) : WR (CF (k + 1) f__law_note [encC a b] S) Q E := by
  have wl : ∀ (l : Runs), (∀ p ∈ l, SmR p) → ∀ w ∈ l.map (fun p => tl (wR p)), w.length ≤ 311 := fun l hl w hw => by
    obtain ⟨p, hp, rfl⟩ := List.mem_map.mp hw
    rw [← len_tl]
    exact wR_len (hl p hp)
  have inner : ∀ (l : Runs) (acc : List Nat) (ax : Int) (u3 u4 : Option D) (p : Po) (W0 : Nat) (C : CallSem) (S : Sto), l.length ≤ 1000 → (∀ q ∈ l, SmR q) → acc.length ≤ 400000 → (∀ u3 u4, p.nx [some (encC a b), some (.str (mkS (acc ++ sfx (l.map fun p => tl (wR p))))), some (.int ax), u3, u4] S) →
      Ws (forl (.ds (l.map encP)) (.tup (.cons (.var 3) (.cons (.var 4) .nil))) (fun ρ S => run W0 C G (.cons (.asg (.var 1) (.bin .Add (.bin .Add (.bin .Add (.var 1) (.var 3)) (.bi .str (.cons (.var 4) .nil))) (.str " "))) .nil) ρ S) (Src.size (.ds (l.map encP)) S + 1) 0 [some (encC a b), some (.str (mkS acc)), some (.int ax), u3, u4] S) p := by
    intro l acc ax u3 u4 p W0 C S hl hs hacc hp
    obtain ⟨I, hI⟩ : ∃ I : Runs → Env → Sto → Prop, ∀ rem ρ S2, I rem ρ S2 ↔ S2 = S ∧ ∃ dn u3 u4, l = dn ++ rem ∧ ρ = [some (encC a b), some (.str (mkS (acc ++ sfx (dn.map fun p => tl (wR p))))), some (.int ax), u3, u4] := ⟨_, fun _ _ _ => Iff.rfl⟩
    refine ws_for_map (m := l) (f := encP) I ?_ ?_ ((hI _ _ _).mpr ⟨rfl, [], u3, u4, rfl, by simp [sfx]⟩)
    · intro q rem ρ S2 hz
      obtain ⟨rfl, dn, v3, v4, hd, rfl⟩ := (hI _ _ _).mp hz
      have hq := hs q (by rw [hd]; exact List.mem_append_right _ List.mem_cons_self)
      have hln := congrArg List.length hd
      rw [List.length_append, List.length_cons] at hln
      have h1 := sfx_len (wl dn fun p hp => hs p (by rw [hd]; exact List.mem_append_left _ hp))
      rw [List.length_map] at h1
      have h2 := wR_len hq
      have e : Str.ofString q.2.repr = numS q.2.toNat := numS_of hq.lo
      have lg := log_ok hq.lo hq.hi
      obtain ⟨c, ec, _, _, ew⟩ := hq.wr
      have e1 : mkS (acc ++ sfx (dn.map fun p => tl (wR p))) ++ q.1 ++ numS q.2.toNat ++ (" " : Str) = mkS (acc ++ sfx ((dn ++ [q]).map fun p => tl (wR p))) := by
        refine ext_tl ?_
        rw [tl_append, tl_append, tl_append, spc_tl, List.map_append, sfx_app]
        have : tl (wR q) = tl q.1 ++ tl (numS q.2.toNat) := by unfold wR; rw [tl_append]
        show ((acc ++ sfx _) ++ tl q.1 ++ tl (numS q.2.toNat)) ++ [32] = acc ++ (sfx _ ++ sfx [tl (wR q)])
        rw [this]
        simp [sfx]
      have lw : (wR q).length = q.1.length + (numS q.2.toNat).length := Str.length_append _ _
      have l0 : (mkS (acc ++ sfx (dn.map fun p => tl (wR p)))).length ≤ 400000 + 312 * 1000 := by
        rw [mkS_len, List.length_append]
        have : 312 * dn.length ≤ 312 * 1000 := Nat.mul_le_mul_left _ (by omega)
        omega
      have sl : (" " : Str).length = 1 := by with_unfolding_all rfl
      have hz1 : 16000000 ≤ sizeLine := by decide
      have fin : I rem [some (encC a b), some (.str (mkS (acc ++ sfx (dn.map fun p => tl (wR p))) ++ q.1 ++ numS q.2.toNat ++ (" " : Str))), some (.int ax), some (.str q.1), some (.int q.2)] S2 := (hI _ _ _).mpr ⟨rfl, dn ++ [q], _, _, by rw [hd]; simp, by rw [e1]⟩
      generalize mkS (acc ++ sfx (dn.map fun p => tl (wR p))) = A at *
      simp [encP]
      rw [e]
      refine ⟨by omega, by simpa using lg, ?_, ?_, fin⟩
      · rw [Str.length_append]; omega
      · rw [Str.length_append, Str.length_append]; omega
    · intro ρ S2 hz
      obtain ⟨rfl, dn, v3, v4, hd, rfl⟩ := (hI _ _ _).mp hz
      rw [List.append_nil] at hd
      subst hd
      exact hp _ _
  have lsa := sfx_len (wl a ha)
  have lsb := sfx_len (wl b hb)
  rw [List.length_map] at lsa lsb
  have la2 : 312 * a.length ≤ 312000 := by omega
  have lb2 : 312 * b.length ≤ 312000 := by omega
  have hz1 : 16000000 ≤ sizeLine := by decide
  have i0 : ∀ S, ixD (encC a b) (.int 0) S = some (encR a) := fun _ => rfl
  have i1 : ∀ S, ixD (encC a b) (.int 1) S = some (encR b) := fun _ => rfl
  have soa : ∀ S, srcOf (encR a) S = some (.ds (a.map encP)) := fun _ => rfl
  have sob : ∀ S, srcOf (encR b) S = some (.ds (b.map encP)) := fun _ => rfl
  have bt : tl ("| " : Str) = [124, 32] := by with_unfolding_all rfl
  have bl : ("| " : Str).length = 2 := by with_unfolding_all rfl
  have em : tl ("" : Str) = [] := by with_unfolding_all rfl
  have el : ("" : Str).length = 0 := by with_unfolding_all rfl
  have r2 : rangeD 0 (Int.toNat 2) = [.int 0, .int 1] := rfl
  obtain ⟨A, hA⟩ : ∃ A, A = sfx (a.map fun p => tl (wR p)) := ⟨_, rfl⟩
  obtain ⟨B, hB⟩ : ∃ B, B = sfx (b.map fun p => tl (wR p)) := ⟨_, rfl⟩
  have fin : (A ++ [124, 32]) ++ B = tl (cityT a b) ++ [32] := by
    rw [hA, hB, sfx_join (by simpa using na), sfx_join (by simpa using nb)]
    unfold cityT
    rw [tl_append, tl_append, bar_tl, runsT_tl, runsT_tl]
    simp
  rw [← hA] at lsa
  rw [← hB] at lsb
  rw [cf_run (fd := fd__law_note) rfl rfl]
  show Ws (run W (CF k) G bd__law_note [some (encC a b), none, none, none, none] S) _
  unfold bd__law_note
  generalize CF k = C at *
  refine s_seq (fun ρ S1 => S1 = S ∧ ρ = [some (encC a b), some (.str (mkS [])), none, none, none]) ?_ ?_
  · simp
    rfl
  rintro ρ S1 ⟨rfl, rfl⟩
  refine s_seq (fun ρ S2 => S2 = S1 ∧ ∃ u2 u3 u4, ρ = [some (encC a b), some (.str (mkS (tl (cityT a b) ++ [32]))), u2, u3, u4]) ?_ ?_
  · generalize hec : encC a b = ec at *
    simp
    refine ⟨rfl, ?_⟩
    rw [show rangeD 0 2 = [D.int 0, D.int 1] from rfl, ws_ds]
    simp [i0, soa]
    refine inner a [] 0 _ _ _ _ _ _ la ha (by simp) fun u3 u4 => ?_
    rw [← hA, List.nil_append]
    have e1 : mkS A ++ ("| " : Str) = mkS (A ++ [124, 32]) := str_add bt
    have lA : (mkS A).length ≤ 312000 := by rw [mkS_len]; omega
    have at0 : atI [D.str ("| " : Str), D.str ""] 0 = some (.str "| ") := rfl
    simp [at0]
    refine ⟨by rw [bl]; omega, ?_⟩
    rw [e1]
    simp [i1, sob]
    refine inner b (A ++ [124, 32]) 1 _ _ _ _ _ _ lb hb (by rw [List.length_append]; simp; omega) fun u3 u4 => ?_
    rw [← hB, fin]
    have e2 : mkS (tl (cityT a b) ++ [32]) ++ ("" : Str) = mkS (tl (cityT a b) ++ [32]) := by rw [str_add em, List.append_nil]
    have at1 : atI [D.str ("| " : Str), D.str ""] 1 = some (.str "") := rfl
    have lF : (mkS (tl (cityT a b) ++ [32])).length ≤ 700000 := by
      rw [mkS_len, ← fin, List.length_append, List.length_append]
      simp
      omega
    generalize mkS (tl (cityT a b) ++ [32]) = F at *
    simp [at1]
    refine ⟨by rw [el]; omega, ?_⟩
    try rw [e2]
    try exact ⟨rfl, _, _, _, rfl⟩
  rintro ρ S2 ⟨rfl, u2, u3, u4, rfl⟩
  have lF : (mkS (tl (cityT a b) ++ [32])).length ≤ 700000 := by
    rw [mkS_len, ← fin, List.length_append, List.length_append]
    simp
    omega
  have sl : ∀ S, slD (.str (mkS (tl (cityT a b) ++ [32]))) none (some (-1)) S = .ok (.str (cityT a b)) S := fun S => by
    show (if (mkS (tl (cityT a b) ++ [32])).length ≤ sizeLine then R.ok (D.str (L2.cutS (mkS (tl (cityT a b) ++ [32])) none (some (-1)))) S else .bad) = _
    rw [if_pos (by omega), cut_last, mkS_tl]
  simp [sl]
  exact hQ
def SmP (p : Int × Int) : Prop := (0 ≤ p.1 ∧ p.1 < 10 ^ 310) ∧ 0 ≤ p.2 ∧ p.2 < 10 ^ 310
theorem SmP.sp {p : Int × Int} (h : SmP p) : Sp p := by
  have : (10 : Int) ^ 310 ≤ 10 ^ 1000 := by decide +kernel
  exact ⟨h.1.1, Int.lt_of_lt_of_le h.1.2 this, h.2.1, Int.lt_of_lt_of_le h.2.2 this⟩
theorem SmP.len {p : Int × Int} (h : SmP p) : (tl (wP p)).length ≤ 621 := by
  have h1 : (numL p.1.toNat).length ≤ 310 := numL_len (by decide) (by have := h.1.1; have := h.1.2; omega)
  have h2 : (numL p.2.toNat).length ≤ 310 := numL_len (by decide) (by have := h.2.1; have := h.2.2; omega)
  rw [wP_tl, List.length_append, List.length_cons]
  omega
theorem w_line {x : D} {l : List (Int × Int)} (hx : lstD S x = some (l.map encPt)) (hl : l.length ≤ 1000) (hs : ∀ p ∈ l, SmP p) (hn : l ≠ []) (hQ : Q (.str (driveT l)) S) : WR (CF (k + 1) f__law_line [x] S) Q E := by
  have wl : ∀ (l : List (Int × Int)), (∀ p ∈ l, SmP p) → ∀ w ∈ l.map (fun p => tl (wP p)), w.length ≤ 621 := fun l hl w hw => by
    obtain ⟨p, hp, rfl⟩ := List.mem_map.mp hw
    exact (hl p hp).len
  have fin : sfx (l.map fun p => tl (wP p)) = tl (driveT l) ++ [32] := by
    rw [sfx_join (by simpa using hn), driveT_tl]
  have hz1 : 16000000 ≤ sizeLine := by decide
  rw [cf_run (fd := fd__law_line) rfl rfl]
  show Ws (run W (CF k) G bd__law_line [some x, none, none, none] S) _
  unfold bd__law_line
  generalize CF k = C at *
  refine s_seq (fun ρ S1 => S1 = S ∧ ρ = [some x, some (.str (mkS [])), none, none]) ?_ ?_
  · simp
    rfl
  rintro ρ S1 ⟨rfl, rfl⟩
  refine s_seq (fun ρ S2 => S2 = S1 ∧ ∃ u2 u3, ρ = [some x, some (.str (mkS (tl (driveT l) ++ [32]))), u2, u3]) ?_ ?_
  · obtain ⟨I, hI⟩ : ∃ I : Nat → Env → Sto → Prop, ∀ i ρ S2, I i ρ S2 ↔ S2 = S1 ∧ ∃ u2 u3, ρ = [some x, some (.str (mkS (sfx ((l.take i).map fun p => tl (wP p))))), u2, u3] := ⟨_, fun _ _ _ => Iff.rfl⟩
    have I0 : I 0 [some x, some (.str (mkS [])), none, none] S1 := (hI _ _ _).mpr ⟨rfl, none, none, by simp [sfx]⟩
    simp
    refine so_of hx fun src w => ?_
    have hw := w.size
    rw [List.length_map] at hw
    refine ws_forl l.length I (fun i ρ S2 hi2 hz => ?_) (fun ρ S2 hz => ?_) _ 0 _ _ (Nat.zero_le _) (by omega) I0
    · obtain ⟨rfl, u2, u3, rfl⟩ := (hI _ _ _).mp hz
      have hp := hs l[i] (List.getElem_mem hi2)
      have h1 := sfx_len (wl (l.take i) fun p hp => hs p (List.mem_of_mem_take hp))
      rw [List.length_map, List.length_take] at h1
      have etk : l.take (i + 1) = l.take i ++ [l[i]] := by rw [List.take_succ, List.getElem?_eq_getElem hi2]; rfl
      refine ⟨encPt l[i], [some x, some (.str (mkS (sfx ((l.take i).map fun p => tl (wP p))))), some (.int l[i].1), some (.int l[i].2)], by rw [w.get i, List.getElem?_map, List.getElem?_eq_getElem hi2]; rfl, rfl, ?_⟩
      have e1 : mkS (sfx ((l.take i).map fun p => tl (wP p))) ++ numS l[i].1.toNat ++ ("," : Str) ++ numS l[i].2.toNat ++ (" " : Str) = mkS (sfx ((l.take (i + 1)).map fun p => tl (wP p))) := by
        refine ext_tl ?_
        rw [tl_append, tl_append, tl_append, tl_append, spc_tl, com_tl, etk, List.map_append, sfx_app]
        show (((sfx _ ++ tl (numS _)) ++ [44]) ++ tl (numS _)) ++ [32] = sfx _ ++ sfx [tl (wP l[i])]
        rw [wP_tl]
        simp [sfx, numS, tl_mkS]
      have fin2 : I (i + 1) [some x, some (.str (mkS (sfx ((l.take i).map fun p => tl (wP p))) ++ numS l[i].1.toNat ++ ("," : Str) ++ numS l[i].2.toNat ++ (" " : Str))), some (.int l[i].1), some (.int l[i].2)] S2 := (hI _ _ _).mpr ⟨rfl, _, _, by rw [e1]⟩
      have l0 : (mkS (sfx ((l.take i).map fun p => tl (wP p)))).length ≤ 622000 := by
        rw [mkS_len]
        have : 622 * min i l.length ≤ 622 * 1000 := Nat.mul_le_mul_left _ (by omega)
        omega
      have n1 : (numS l[i].1.toNat).length ≤ 310 := by rw [numS_len]; exact numL_len (by decide) (by have := hp.1.1; have := hp.1.2; omega)
      have n2 : (numS l[i].2.toNat).length ≤ 310 := by rw [numS_len]; exact numL_len (by decide) (by have := hp.2.1; have := hp.2.2; omega)
      have r1 : Str.ofString (l[i].1).repr = numS l[i].1.toNat := numS_of hp.1.1
      have r2 : Str.ofString (l[i].2).repr = numS l[i].2.toNat := numS_of hp.2.1
      have lg1 := log_ok hp.1.1 hp.1.2
      have lg2 := log_ok hp.2.1 hp.2.2
      have sl : (" " : Str).length = 1 := by with_unfolding_all rfl
      clear e1 etk h1 hp
      generalize l[i] = p at *
      generalize mkS (sfx ((l.take i).map fun p => tl (wP p))) = A at *
      simp
      rw [r1, r2]
      refine ⟨by simpa using lg1, by omega, ?_, by simpa using lg2, ?_, ?_, fin2⟩
      · rw [Str.length_append, com_len]; omega
      · rw [Str.length_append, Str.length_append, com_len]; omega
      · rw [Str.length_append, Str.length_append, Str.length_append, com_len]; omega
    · obtain ⟨rfl, u2, u3, rfl⟩ := (hI _ _ _).mp hz
      refine ⟨by rw [w.get]; simp, rfl, u2, u3, ?_⟩
      rw [List.take_length, fin]
  rintro ρ S2 ⟨rfl, u2, u3, rfl⟩
  have lF : (mkS (tl (driveT l) ++ [32])).length ≤ 700000 := by
    rw [mkS_len, ← fin]
    have h1 := sfx_len (wl l hs)
    rw [List.length_map] at h1
    omega
  have sl : ∀ S, slD (.str (mkS (tl (driveT l) ++ [32]))) none (some (-1)) S = .ok (.str (driveT l)) S := fun S => by
    show (if (mkS (tl (driveT l) ++ [32])).length ≤ sizeLine then R.ok (D.str (L2.cutS (mkS (tl (driveT l) ++ [32])) none (some (-1)))) S else .bad) = _
    rw [if_pos (by omega), cut_last, mkS_tl]
  simp [sl]
  exact hQ
end
end CC
namespace CC
open PySem PySem.Spec PyProof.Rows L2 TL
section
variable {k : Nat} {v : D} {S : Sto} {Q : D → Sto → Prop} {E : Nat → List D → Sto → Prop}
theorem lstM_ext {x : D} {ds : List D} (h : lstM S x = some ds) (J : List SO) : lstM (S ++ J) x = some ds := by
  cases x with
  | loc n =>
    have h' : (match S[n]? with
      | some (.lst ds) => some ds
      | _ => none) = some ds := h
    show (match (S ++ J)[n]? with
      | some (.lst ds) => some ds
      | _ => none) = some ds
    split at h'
    · rename_i q
      rw [List.getElem?_append_left (List.getElem?_eq_some_iff.mp q).1, q]
      exact h'
    · cases h'
  | fl _ => exact h
  | _ => cases h
theorem lstM_lt {x : D} {ds : List D} (h : lstM S x = some ds) (hd : ∀ j, ltL j ds = true) : D.lt S.length x = true := by
  cases x with
  | loc n =>
    have h' : (match S[n]? with
      | some (.lst ds) => some ds
      | _ => none) = some ds := h
    split at h'
    · rename_i q
      rw [lt_loc, decide_eq_true_eq]
      exact (List.getElem?_eq_some_iff.mp q).1
    · cases h'
  | fl es =>
    cases h
    rw [lt_fl]
    exact hd _
  | _ => cases h
theorem toQ_lst {x : D} {ds : List D} {n : Nat} (h : lstD S x = some ds) : toQ S (n + 1) x = (ds.mapM (toQ S n)).map PyData.list := by
  cases x with
  | loc m =>
    have h' : lstAt S m = some ds := h
    show (match lstAt S m with
      | some ds => (ds.mapM (toQ S n)).map PyData.list
      | none => match dicAt S m with
        | some [] => some (PyData.dict [])
        | _ => none) = _
    rw [h']
  | fl es =>
    cases h
    rfl
  | _ => cases h
theorem Rw_pt {P : Sto → Prop} {p : Int × Int} (h : SmP p) : Rw P 1 3000 (encPt p) := by
  have b : (10 : Int) ^ 310 < 2 ^ 1100 := by decide +kernel
  refine Rw_tup (n := 0) (w := 1200) (fun d hd => ?_) (by show 2 * (1200 + 2) + 3 ≤ 3000; omega)
  simp only [List.mem_cons, List.not_mem_nil, or_false] at hd
  rcases hd with rfl | rfl
  · exact Rw_nat 1100 h.1.1 (Int.lt_trans h.1.2 b) (by omega) (by omega) (by omega)
  · exact Rw_nat 1100 h.2.1 (Int.lt_trans h.2.2 b) (by omega) (by omega) (by omega)
theorem Rw_lx {x : D} {l : List (Int × Int)} (hx : lstM S x = some (l.map encPt)) (hl : l.length ≤ 100) (hs : ∀ p ∈ l, SmP p) : Rw (fun T => lstM T x = some (l.map encPt)) 2 400000 x := by
  have he : ∀ d ∈ l.map encPt, Rw (fun T => lstM T x = some (l.map encPt)) 1 3000 d := fun d hd => by
    obtain ⟨p, hp, rfl⟩ := List.mem_map.mp hd
    exact Rw_pt (hs p hp)
  have hb : (l.map encPt).length * (3000 + 2) + 3 ≤ 400000 := by
    rw [List.length_map]
    have : l.length * 3002 ≤ 100 * 3002 := Nat.mul_le_mul_right _ hl
    omega
  cases x with
  | loc n => exact Rw_loc (fun T hT => lstD_M hT) he hb
  | fl es =>
    cases hx
    exact Rw_fl he hb
  | _ => cases hx
theorem TownB.smr {a b : Runs} (t : TownB a b) : (∀ p ∈ a, SmR p) ∧ ∀ p ∈ b, SmR p := by
  have b0 : (10 : Int) ^ 30 < 10 ^ 310 := by decide +kernel
  have eE : ("E" : Str) = mkS [69] := by with_unfolding_all rfl
  have eW : ("W" : Str) = mkS [87] := by with_unfolding_all rfl
  have eN : ("N" : Str) = mkS [78] := by with_unfolding_all rfl
  have eS : ("S" : Str) = mkS [83] := by with_unfolding_all rfl
  constructor
  · intro p hp
    obtain ⟨h1, h2⟩ := okR_mem t.oa hp
    refine ⟨?_, by omega, Int.lt_of_le_of_lt (t.ba p hp).2 b0⟩
    rcases h1 with h1 | h1
    · exact ⟨69, by rw [h1, eE], by decide, by decide⟩
    · exact ⟨87, by rw [h1, eW], by decide, by decide⟩
  · intro p hp
    obtain ⟨h1, h2⟩ := okR_mem t.ob hp
    refine ⟨?_, by omega, Int.lt_of_le_of_lt (t.bb p hp).2 b0⟩
    rcases h1 with h1 | h1
    · exact ⟨78, by rw [h1, eN], by decide, by decide⟩
    · exact ⟨83, by rw [h1, eS], by decide, by decide⟩
theorem okR_ne {A B : Str} {l : Runs} (h : okR A B l = true) : l ≠ [] := fun e => by
  subst e
  cases h
theorem cl_ptsR {A B : Str} (hA : PyData.strOk A = true) (hB : PyData.strOk B = true) {l : Runs} (o : okR A B l = true) : cl 2 (encR l) = true := by
  show (l.map encP).all (cl 1) = true
  rw [List.all_eq_true]
  intro d hd
  obtain ⟨p, hp, rfl⟩ := List.mem_map.mp hd
  have : PyData.strOk p.1 = true := by rcases (okR_mem o hp).1 with e | e <;> rw [e] <;> assumption
  show ([D.str p.1, .int p.2].all (cl 0)) = true
  simp only [List.all_cons, List.all_nil, Bool.and_true, Bool.and_eq_true]
  exact ⟨this, rfl⟩
theorem cl_cityT {a b : Runs} (oa : okR "E" "W" a = true) (ob : okR "N" "S" b = true) : cl 3 (encC a b) = true := by
  show ([encR a, encR b].all (cl 2)) = true
  simp only [List.all_cons, List.all_nil, Bool.and_true, Bool.and_eq_true]
  exact ⟨cl_ptsR (by decide +kernel) (by decide +kernel) oa, cl_ptsR (by decide +kernel) (by decide +kernel) ob⟩
theorem set_ext {n : Nat} {J : List SO} {z : SO} (h : S.length ≤ n) : ∃ K, (S ++ J).set n z = S ++ K := ⟨J.set (n - S.length) z, List.set_append_right _ _ h⟩
theorem strOk_T {x : Str} (h : ∀ c ∈ tl x, c < 256) : PyData.strOk x = true := by
  unfold PyData.strOk
  rw [Array.all_eq_true_iff_forall_mem]
  intro c hc
  have := h c (Array.mem_toList_iff.mpr hc)
  rw [decide_eq_true_iff]
  omega
theorem numL_chr {n : Nat} : ∀ c ∈ numL n, c < 256 := fun c hc => by
  have := numL_digits n c hc
  omega
theorem runsT_chr {l : Runs} (hs : ∀ p ∈ l, SmR p) : ∀ c ∈ tl (runsT l), c < 256 := by
  rw [runsT_tl]
  intro c hc
  rcases joinL_mem hc with hc | ⟨w, hw, hc⟩
  · cases hc with
    | head => decide
    | tail _ h => cases h
  · obtain ⟨p, hp, rfl⟩ := List.mem_map.mp hw
    obtain ⟨d, h1, h2, e⟩ := wR_tl (hs p hp)
    rw [e] at hc
    rcases List.mem_cons.mp hc with rfl | hc
    · omega
    · exact numL_chr c hc
theorem driveT_chr {l : List (Int × Int)} : ∀ c ∈ tl (driveT l), c < 256 := by
  rw [driveT_tl]
  intro c hc
  rcases joinL_mem hc with hc | ⟨w, hw, hc⟩
  · cases hc with
    | head => decide
    | tail _ h => cases h
  · obtain ⟨p, hp, rfl⟩ := List.mem_map.mp hw
    rw [wP_tl] at hc
    rcases List.mem_append.mp hc with hc | hc
    · exact numL_chr c hc
    · rcases List.mem_cons.mp hc with rfl | hc
      · decide
      · exact numL_chr c hc
theorem cityT_chr {a b : Runs} (ha : ∀ p ∈ a, SmR p) (hb : ∀ p ∈ b, SmR p) : ∀ c ∈ tl (cityT a b), c < 256 := by
  unfold cityT
  rw [tl_append, tl_append, bar_tl]
  intro c hc
  rcases List.mem_append.mp hc with hc | hc
  · rcases List.mem_append.mp hc with hc | hc
    · exact runsT_chr ha c hc
    · simp only [List.mem_cons, List.not_mem_nil, or_false] at hc
      rcases hc with rfl | rfl | rfl <;> decide
  · exact runsT_chr hb c hc
theorem ne_two {x : Str} (h : PyData.strOk x = true) : cmpD .NotEq (.fl [.str x, .str x]) (.fl [.str x, .str x]) S = some false := by
  have c1 : cl 1 (.fl [.str x, .str x]) = true := by
    show ([D.str x, .str x].all (cl 0)) = true
    simp only [List.all_cons, List.all_nil, Bool.and_true, Bool.and_eq_true]
    exact ⟨h, h⟩
  exact ne_cl c1 c1 (by decide) (by decide) (by simp)
theorem w_both {a b : Runs} {x : D} {l : List (Int × Int)} (t : TownB a b) (hx : lstM S x = some (l.map encPt)) (hn : l ≠ []) (hl : l.length ≤ 100) (hs : ∀ p ∈ l, SmP p) (hQ : Q (.bl true) S) : WR (CF (k + 6) f__law_both_ways [encC a b, x] S) Q E := by
  obtain ⟨sa, sb⟩ := t.smr
  have la := t.la
  have lb := t.lb
  have na := okR_ne t.oa
  have nb := okR_ne t.ob
  have tw := t.town
  have lx : D.lt S.length x = true := lstM_lt hx fun j => ltL_map' fun p => by simp
  have sp := fun p hp => (hs p hp).sp
  have ltC : ∀ j, D.lt j (encC a b) = true := fun j => by simp
  have cn : ∀ Q E (T : Sto), Q (.str (cityT a b)) T → WR (CF (k + 5) f__law_note [encC a b] T) Q E := fun Q E T h => e_note (k := k + 4) (by omega) (by omega) sa sb na nb h
  have cl_ : ∀ Q E (T : Sto), lstM T x = some (l.map encPt) → Q (.str (driveT l)) T → WR (CF (k + 5) f__law_line [x] T) Q E := fun Q E T hT h => w_line (k := k + 4) (lstD_M hT) (by omega) hs hn h
  have cfc : ∀ Q E (T : Sto), Q (.str (cityT a b)) T → WR (CF (k + 5) f_format_city [encC a b] T) Q E := fun Q E T h => w_fcity (k := k) tw (by omega) (by omega) sa sb h
  have cfd : ∀ Q E (T : Sto), lstM T x = some (l.map encPt) → Q (.str (driveT l)) T → WR (CF (k + 5) f_format_drive [x] T) Q E := fun Q E T hT h => w_fdrive (k := k + 2) hT hn (by omega) sp h
  have cpc : ∀ Q E (T : Sto), Q (encC a b) T → WR (CF (k + 5) f_parse_city [.str (cityT a b)] T) Q E := fun Q E T h => w_pcity (k := k) tw (by omega) (by omega) sa sb na nb h
  have cpd : ∀ Q E (T : Sto), (∀ K n, (T ++ K)[n]? = some (.lst (l.map encPt)) → T.length ≤ n → Q (.loc n) (T ++ K)) → WR (CF (k + 5) f_parse_drive [.str (driveT l)] T) Q E := fun Q E T h => w_pdrive (k := k + 2) hn (by omega) sp h
  have wx := Rw_lx hx hl hs
  have wc := Rw_town (P := fun T => lstM T x = some (l.map encPt)) t
  obtain ⟨tc, htc⟩ := wc.rep (by decide) (by decide)
  obtain ⟨tb, htb⟩ := (Rw_fl (n := 3) (w := 400000) (x := 1000000) (ds := [encC a b, x]) (fun d hd => by
    simp only [List.mem_cons, List.not_mem_nil, or_false] at hd
    rcases hd with rfl | rfl
    · exact wc.le (by decide) (by decide)
    · exact wx.le (by decide) (by decide)) (by show 2 * (400000 + 2) + 3 ≤ 1000000; decide)).rep (by decide) (by decide)
  obtain ⟨tx, htx⟩ := (Rw_fl (n := 3) (w := 400000) (x := 1000000) (ds := [x, x]) (fun d hd => by
    simp only [List.mem_cons, List.not_mem_nil, or_false] at hd
    rcases hd with rfl | rfl
    · exact wx.le (by decide) (by decide)
    · exact wx.le (by decide) (by decide)) (by show 2 * (400000 + 2) + 3 ≤ 1000000; decide)).rep (by decide) (by decide)
  have rep2 : ∀ (U : Sto) (m n1 n2 : Nat), lstM U x = some (l.map encPt) → U[m]? = some (.lst [.loc n1, .loc n2]) → U[n1]? = some (.lst (l.map encPt)) → U[n2]? = some (.lst (l.map encPt)) → repD (.loc m) U = some (.str tx) := fun U m n1 n2 hU h0 h1 h2 => by
    rw [← htx U hU]
    unfold repD
    congr 1
    have q1 : toQ U 49 (.loc n1) = ((l.map encPt).mapM (toQ U 48)).map .list := toQ_lst (lst_at h1)
    have q2 : toQ U 49 (.loc n2) = ((l.map encPt).mapM (toQ U 48)).map .list := toQ_lst (lst_at h2)
    have q3 : toQ U 49 x = ((l.map encPt).mapM (toQ U 48)).map .list := toQ_lst (lstD_M hU)
    have q4 : toQ U 50 (.loc m) = ([D.loc n1, .loc n2].mapM (toQ U 49)).map .list := toQ_lst (lst_at h0)
    have q5 : toQ U 50 (.fl [x, x]) = ([x, x].mapM (toQ U 49)).map .list := toQ_lst rfl
    rw [q4, q5]
    congr 1
    rw [List.mapM_cons, List.mapM_cons, List.mapM_cons, List.mapM_cons, q1, q2, q3]
  have sC : PyData.strOk (cityT a b) = true := strOk_T (cityT_chr sa sb)
  have sD : PyData.strOk (driveT l) = true := strOk_T driveT_chr
  have nC : ∀ T, cmpD .NotEq (.fl [.str (cityT a b), .str (cityT a b)]) (.fl [.str (cityT a b), .str (cityT a b)]) T = some false := fun T => ne_two sC
  have nD : ∀ T, cmpD .NotEq (.fl [.str (driveT l), .str (driveT l)]) (.fl [.str (driveT l), .str (driveT l)]) T = some false := fun T => ne_two sD
  have cE : ∀ T, cmpD .NotEq (encC a b) (encC a b) T = some false := fun T => ne_cl (cl_cityT t.oa t.ob) (cl_cityT t.oa t.ob) (by decide) (by decide) (by simp)
  have sE : ∀ (z : Str) T, cmpD .NotEq (.str z) (.str z) T = some false := fun z T => by
    show some (!(z == z)) = _
    simp
  rw [cf_run (fd := fd__law_both_ways) rfl rfl]
  show Ws (run W (CF (k + 5)) G bd__law_both_ways [some (encC a b), some x, none, none, none, none, none] S) _
  unfold bd__law_both_ways
  generalize CF (k + 5) = C at *
  generalize cityT a b = ct at *
  generalize driveT l = dt at *
  generalize encC a b = ec at *
  clear wx wc tw
  refine s_seq (fun ρ S1 => S1 = S ∧ ρ = [some ec, some x, some (.str ct), some (.str dt), none, none, none]) ?_ ?_
  · simp
    refine cn _ _ _ ?_
    simp
    refine cl_ _ _ _ hx ?_
    simp
  rintro ρ S1 ⟨rfl, rfl⟩
  refine s_seq (fun ρ S2 => S2 = S1 ∧ ρ = [some ec, some x, some (.str ct), some (.str dt), some (.str tb), none, none]) ?_ ?_
  · simp
    rw [fr_new (by simp [ltC, lx])]
    simp [htb _ hx]
  rintro ρ S2 ⟨rfl, rfl⟩
  refine s_seq (fun ρ S3 => S3 = S2 ∧ ρ = [some ec, some x, some (.str ct), some (.str dt), some (.str tb), none, none]) ?_ ?_
  · simp
    refine cfc _ _ _ ?_
    refine cfc _ _ _ ?_
    simp [nC]
  rintro ρ S3 ⟨rfl, rfl⟩
  refine s_seq (fun ρ S4 => S4 = S3 ∧ ρ = [some ec, some x, some (.str ct), some (.str dt), some (.str tb), none, none]) ?_ ?_
  · simp
    refine cfd _ _ _ hx ?_
    refine cfd _ _ _ hx ?_
    simp [nD]
  rintro ρ S4 ⟨rfl, rfl⟩
  obtain ⟨J, hJ⟩ : ∃ J : Env → Sto → Prop, ∀ ρ S5, J ρ S5 ↔ ∃ K u5 u6, S5 = S4 ++ K ∧ ρ = [some ec, some x, some (.str ct), some (.str dt), some (.str tb), u5, u6] := ⟨_, fun _ _ => Iff.rfl⟩
  refine s_seq J ?_ ?_
  · simp
    refine ⟨rfl, ?_⟩
    refine ws_range (lo := 0) (m := 2) (fun _ => J) ?_ (fun ρ S z => z) ((hJ _ _).mpr ⟨[], none, none, by simp, rfl⟩)
    intro i ρ S5 hi hz
    obtain ⟨K, u5, u6, rfl, rfl⟩ := (hJ _ _).mp hz
    obtain ⟨M, hM⟩ : ∃ M : Env → Sto → Prop, ∀ ρ S6, M ρ S6 ↔ ∃ K u5 m n1 n2, S6 = S4 ++ K ∧ S4.length ≤ n1 ∧ S6[m]? = some (.lst [.loc n1, .loc n2]) ∧ S6[n1]? = some (.lst (l.map encPt)) ∧ S6[n2]? = some (.lst (l.map encPt)) ∧ ρ = [some ec, some x, some (.str ct), some (.str dt), some (.str tb), u5, some (.loc m)] := ⟨_, fun _ _ => Iff.rfl⟩
    refine s_seq M ?_ ?_
    · simp
      refine cpd _ _ _ fun K1 n1 g1 l1 => ?_
      have e1 : S4 ++ K ++ K1 = S4 ++ (K ++ K1) := List.append_assoc _ _ _
      obtain ⟨T1, hT1⟩ : ∃ T1, T1 = S4 ++ K ++ K1 := ⟨_, rfl⟩
      rw [← hT1] at g1 ⊢
      refine cpd _ _ _ fun K2 n2 g2 l2 => ?_
      obtain ⟨T2, hT2⟩ : ∃ T2, T2 = T1 ++ K2 := ⟨_, rfl⟩
      rw [← hT2] at g2 ⊢
      have g1' : T2[n1]? = some (.lst (l.map encPt)) := by
        rw [hT2]
        exact old_get g1
      try simp
      refine (hM _ _).mpr ⟨(K ++ K1) ++ K2 ++ [.lst [.loc n1, .loc n2]], _, T2.length, n1, n2, ?_, ?_, ?_, ?_, ?_, rfl⟩
      · rw [hT2, hT1]; simp
      · rw [List.length_append] at l1; omega
      · simp
      · exact old_get g1'
      · exact old_get g2
    intro ρ S6 hz6
    obtain ⟨K6, v5, m, n1, n2, hS6, l1, g0, g1, g2, rfl⟩ := (hM _ _).mp hz6
    have hx6 : lstM S6 x = some (l.map encPt) := by rw [hS6]; exact lstM_ext hx _
    have lx6 : D.lt S6.length x = true := lstM_lt hx6 fun j => ltL_map' fun p => by simp
    have r6 := rep2 S6 m n1 n2 hx6 g0 g1 g2
    have rx6 := htx S6 hx6
    have rb6 := htb S6 hx6
    have rc6 := htc S6 hx6
    have st6 : ∀ z, ∃ K', S6.set n1 z = S4 ++ K' := fun z => by rw [hS6]; exact set_ext l1
    clear hS6 hz6 hM M hz rep2 htx htb htc
    refine s_seq (fun ρ S7 => S7 = S6 ∧ ρ = [some ec, some x, some (.str ct), some (.str dt), some (.str tb), v5, some (.loc m)]) ?_ ?_
    · simp [r6]
      rw [fr_new (by simp [lx6])]
      simp [rx6, sE]
      refine cpc _ _ _ ?_
      simp [rc6, sE]
    rintro ρ S7 ⟨rfl, rfl⟩
    refine s_seq (fun ρ S8 => S8 = S7 ∧ ρ = [some ec, some x, some (.str ct), some (.str dt), some (.str tb), v5, some (.loc m)]) ?_ ?_
    · simp
      refine cpc _ _ _ ?_
      simp [cE]
      rw [fr_new (by simp [ltC, lx6])]
      simp [rb6, sE]
    rintro ρ S8 ⟨rfl, rfl⟩
    have ix0 : ixD (.loc m) (.int 0) S8 = some (.loc n1) := by
      rw [ix_of (x := .loc m) (S := S8) (ds := [.loc n1, .loc n2]) (lst_at g0)]
      rfl
    obtain ⟨K', hK'⟩ := st6 (.lst (l.map encPt ++ [.tup [.int 0, .int 0]]))
    simp [ix0, isLst_at g1]
    rw [mt_append g1, hK']
    refine ⟨by rw [List.length_map]; unfold sizeLine; omega, (hJ _ _).mpr ⟨K', _, _, rfl, rfl⟩⟩
  intro ρ S5 hz
  obtain ⟨K, u5, u6, rfl, rfl⟩ := (hJ _ _).mp hz
  simp
  exact hQ
end
end CC
namespace CC
open PySem PySem.Spec PyProof.Rows L2 TL
section
variable {k : Nat} {v : D} {S : Sto} {Q : D → Sto → Prop} {E : Nat → List D → Sto → Prop}
theorem pick3 {far r : Int} (f0 : 1 ≤ far) (f1 : far ≤ 10 ^ 31) (r0 : 0 ≤ r) (r1 : r < 3) : ∃ j, atI [D.int 3, .int 40, .int far] r = some (.int j) ∧ 0 < j ∧ j ≤ 10 ^ 31 := by
  rcases (by omega : r = 0 ∨ r = 1 ∨ r = 2) with rfl | rfl | rfl
  · exact ⟨3, rfl, by decide, by decide⟩
  · exact ⟨40, rfl, by decide, by decide⟩
  · exact ⟨far, rfl, by omega, f1⟩
theorem w_point {n : Nat} {b : SO} {c far : Int} (h : S[n]? = some b) (hb : BagOk b c) (hc : c < 2 ^ 59) (f0 : 1 ≤ far) (f1 : far ≤ 10 ^ 31) (hQ : ∀ p b', SmP p → BagOk b' (c + 4) → Q (encPt p) (S.set n b')) : WR (CF (k + 2) f__law_point [.loc n, .int far] S) Q E := by
  have f31 : (10 : Int) ^ 31 < 2 ^ 200 := by decide
  have f310 : (10 : Int) ^ 31 < 10 ^ 310 := by decide +kernel
  have dr : ∀ {j c : Int} {b : SO} {S : Sto} {Q E}, S[n]? = some b → BagOk b c → c < 2 ^ 60 → 0 < j → j < 2 ^ 200 → (∀ r b', 0 ≤ r → r < j → BagOk b' (c + 1) → Q (.int r) (S.set n b')) → WR (CF (k + 1) f__law_draw [.loc n, .int j] S) Q E := fun h1 h2 h3 h4 h5 h6 => w_draw (k := k) h1 h2 h3 h4 h5 h6
  rw [cf_run (fd := fd__law_point) rfl rfl]
  show Ws (run W (CF (k + 1)) G bd__law_point [some (.loc n), some (.int far), none] S) _
  unfold bd__law_point
  generalize CF (k + 1) = C at *
  obtain ⟨P, hP⟩ : ∃ P : Env → Sto → Prop, ∀ ρ S1, P ρ S1 ↔ ∃ x b', (0 ≤ x ∧ x < 10 ^ 310) ∧ BagOk b' (c + 2) ∧ S1 = S.set n b' ∧ ρ = [some (.loc n), some (.int far), some (.int x)] := ⟨_, fun _ _ => Iff.rfl⟩
  refine s_seq P ?_ ?_
  · simp
    refine dr h hb (by omega) (by decide) (by decide) fun r b1 r0 r1 hb1 => ?_
    obtain ⟨j, hj, j0, j1⟩ := pick3 f0 f1 r0 r1
    simp [hj]
    refine dr (set_get h) hb1 (by omega) j0 (by omega) fun x b2 x0 x1 hb2 => ?_
    rw [List.set_set]
    exact (hP _ _).mpr ⟨x, b2, ⟨x0, by omega⟩, hb2.le (by omega), rfl, rfl⟩
  intro ρ S1 hz
  obtain ⟨x, b2, hx, hb2, rfl, rfl⟩ := (hP _ _).mp hz
  simp
  refine dr (set_get h) hb2 (by omega) (by decide) (by decide) fun r b3 r0 r1 hb3 => ?_
  obtain ⟨j, hj, j0, j1⟩ := pick3 f0 f1 r0 r1
  rw [List.set_set]
  simp [hj]
  refine dr (set_get h) hb3 (by omega) j0 (by omega) fun y b4 y0 y1 hb4 => ?_
  rw [List.set_set]
  have := hQ (x, y) b4 ⟨hx, y0, by omega⟩ (hb4.le (by omega))
  simpa [encPt] using this
@[irreducible] def rowsL : Runs := (List.range 40).map fun k => (if k % 2 = 0 then "E" else "W", 10 ^ 30 + (k : Nat))
@[irreducible] def colsL : Runs := (List.range 49).map fun k => (if k % 2 = 0 then "N" else "S", 10 ^ 30 - 1 - (k : Nat))
@[irreducible] def ptsL : List (Int × Int) := (List.range 200).map fun k => ((k : Nat), 10 ^ 9 - (k : Nat))
theorem rowsL_sm : ∀ p ∈ rowsL, SmR p ∧ (wR p).length ≤ 32 := by
  intro p hp
  unfold rowsL at hp
  obtain ⟨k, hk, rfl⟩ := List.mem_map.mp hp
  have hk := List.mem_range.mp hk
  have h0 : SmR (if k % 2 = 0 then "E" else "W", 10 ^ 30 + (k : Nat)) := by
    have h31 : (10 : Int) ^ 31 < 10 ^ 310 := by decide +kernel
    refine ⟨?_, by show (0 : Int) ≤ 10 ^ 30 + (k : Nat); omega, by show (10 : Int) ^ 30 + (k : Nat) < 10 ^ 310; omega⟩
    show ∃ c, (if k % 2 = 0 then ("E" : Str) else "W") = mkS [c] ∧ 65 ≤ c ∧ c ≤ 90
    split
    · exact ⟨69, by with_unfolding_all rfl, by decide, by decide⟩
    · exact ⟨87, by with_unfolding_all rfl, by decide, by decide⟩
  refine ⟨h0, ?_⟩
  obtain ⟨c, _, _, e⟩ := wR_tl h0
  rw [len_tl, e, List.length_cons]
  have : (numL (10 ^ 30 + (k : Int)).toNat).length ≤ 31 := numL_len (by decide) (by omega)
  show (numL (10 ^ 30 + (k : Int)).toNat).length + 1 ≤ 32
  omega
theorem colsL_sm : ∀ p ∈ colsL, SmR p ∧ (wR p).length ≤ 31 := by
  intro p hp
  unfold colsL at hp
  obtain ⟨k, hk, rfl⟩ := List.mem_map.mp hp
  have hk := List.mem_range.mp hk
  have h0 : SmR (if k % 2 = 0 then "N" else "S", 10 ^ 30 - 1 - (k : Nat)) := by
    have h31 : (10 : Int) ^ 31 < 10 ^ 310 := by decide +kernel
    refine ⟨?_, by show (0 : Int) ≤ 10 ^ 30 - 1 - (k : Nat); omega, by show (10 : Int) ^ 30 - 1 - (k : Nat) < 10 ^ 310; omega⟩
    show ∃ c, (if k % 2 = 0 then ("N" : Str) else "S") = mkS [c] ∧ 65 ≤ c ∧ c ≤ 90
    split
    · exact ⟨78, by with_unfolding_all rfl, by decide, by decide⟩
    · exact ⟨83, by with_unfolding_all rfl, by decide, by decide⟩
  refine ⟨h0, ?_⟩
  obtain ⟨c, _, _, e⟩ := wR_tl h0
  rw [len_tl, e, List.length_cons]
  have : (numL (10 ^ 30 - 1 - (k : Int)).toNat).length ≤ 30 := numL_len (by decide) (by omega)
  show (numL (10 ^ 30 - 1 - (k : Int)).toNat).length + 1 ≤ 31
  omega
theorem ptsL_sm : ∀ p ∈ ptsL, SmP p ∧ (wP p).length ≤ 14 := by
  intro p hp
  unfold ptsL at hp
  obtain ⟨k, hk, rfl⟩ := List.mem_map.mp hp
  have hk := List.mem_range.mp hk
  have h31 : (10 : Int) ^ 31 < 10 ^ 310 := by decide +kernel
  refine ⟨⟨⟨by show (0 : Int) ≤ (k : Nat); omega, by show ((k : Nat) : Int) < 10 ^ 310; omega⟩, by show (0 : Int) ≤ 10 ^ 9 - (k : Nat); omega, by show (10 : Int) ^ 9 - (k : Nat) < 10 ^ 310; omega⟩, ?_⟩
  rw [len_tl, wP_tl, List.length_append, List.length_cons]
  have h1 : (numL ((k : Nat) : Int).toNat).length ≤ 3 := numL_len (by decide) (by omega)
  have h2 : (numL (10 ^ 9 - (k : Int)).toNat).length ≤ 10 := numL_len (by decide) (by omega)
  show (numL ((k : Nat) : Int).toNat).length + ((numL (10 ^ 9 - (k : Int)).toNat).length + 1) ≤ 14
  omega
theorem runsT_le {B : Nat} {l : Runs} (h : ∀ p ∈ l, (wR p).length ≤ B) : (runsT l).length ≤ (B + 1) * l.length := by
  rw [len_tl, runsT_tl]
  refine Nat.le_trans joinL_len ?_
  rw [List.map_map, List.length_map]
  have : (l.map (List.length ∘ fun p => tl (wR p))).sum ≤ B * l.length := sum_le fun p hp => by
    show (tl (wR p)).length ≤ B
    rw [← len_tl]
    exact h p hp
  have e : [32].length = 1 := rfl
  rw [e, Nat.add_mul, Nat.one_mul]
  omega
theorem driveT_le {B : Nat} {l : List (Int × Int)} (h : ∀ p ∈ l, (wP p).length ≤ B) : (driveT l).length ≤ (B + 1) * l.length := by
  rw [len_tl, driveT_tl]
  refine Nat.le_trans joinL_len ?_
  rw [List.map_map, List.length_map]
  have : (l.map (List.length ∘ fun p => tl (wP p))).sum ≤ B * l.length := sum_le fun p hp => by
    show (tl (wP p)).length ≤ B
    rw [← len_tl]
    exact h p hp
  have e : [32].length = 1 := rfl
  rw [e, Nat.add_mul, Nat.one_mul]
  omega
theorem okR_rows : okR "E" "W" rowsL = true := by decide +kernel
theorem okR_cols : okR "N" "S" colsL = true := by decide +kernel
theorem rowsL_len : rowsL.length = 40 := by simp [rowsL]
theorem colsL_len : colsL.length = 49 := by simp [colsL]
theorem ptsL_len : ptsL.length = 200 := by simp [ptsL]
theorem town_L : Town rowsL colsL := ⟨okR_rows, okR_cols, by rw [rowsL_len]; decide, by rw [colsL_len]; decide⟩
theorem city_L : (cityT rowsL colsL).length ≤ 3000 := by
  unfold cityT
  have h1 := runsT_le fun p hp => (rowsL_sm p hp).2
  have h2 := runsT_le fun p hp => (colsL_sm p hp).2
  have h3 : (" | " : Str).length = 3 := by with_unfolding_all rfl
  rw [rowsL_len] at h1
  rw [colsL_len] at h2
  rw [Str.length_append, Str.length_append, h3]
  omega
theorem drive_L : (driveT ptsL).length ≤ 3000 := by
  have h1 := driveT_le fun p hp => (ptsL_sm p hp).2
  rw [ptsL_len] at h1
  omega
theorem cl_ptsL {l : List (Int × Int)} : cl 2 (.fl (l.map encPt)) = true := by
  show (l.map encPt).all (cl 1) = true
  rw [List.all_eq_true]
  intro d hd
  obtain ⟨p, _, rfl⟩ := List.mem_map.mp hd
  rfl
theorem fr_ext2 {T : Sto} {K : List SO} {n : Nat} {ds : List D} (g : (T ++ K)[n]? = some (.lst ds)) (hn : T.length ≤ n) (hd : ∀ j, ltL j ds = true) : WR (trim T (frzD (.loc n) (T ++ K))) Q E = Q (.fl ds) T := by
  rw [fr_at g, hd, List.set_append_right _ _ hn, cut_app]
theorem w_longG {R N : Runs} {L : List (Int × Int)} (sa : ∀ p ∈ R, SmR p) (sb : ∀ p ∈ N, SmR p) (sp : ∀ p ∈ L, SmP p) (oa : okR "E" "W" R = true) (ob : okR "N" "S" N = true) (np : L ≠ []) (la : R.length = 40) (lb : N.length = 49) (lp : L.length = 200)
    (city_L : (cityT R N).length ≤ 3000) (drive_L : (driveT L).length ≤ 3000)
    (eR : ((List.range 40).map fun k => encP (if k % 2 = 0 then "E" else "W", 10 ^ 30 + (k : Nat))) = R.map encP) (eC : ((List.range 49).map fun k => encP (if k % 2 = 0 then "N" else "S", 10 ^ 30 - 1 - (k : Nat))) = N.map encP)
    (eP : ((List.range 200).map fun k : Nat => encPt ((k : Nat), 10 ^ 9 - (k : Nat))) = L.map encPt) (hQ : Q (.bl true) S) : WR (CF (k + 6) f__law_long_right [] S) Q E := by
  have town_L : Town R N := ⟨oa, ob, by rw [la]; decide, by rw [lb]; decide⟩
  have na : R ≠ [] := okR_ne oa
  have nb : N ≠ [] := okR_ne ob
  have cn : ∀ Q E (T : Sto), Q (.str (cityT R N)) T → WR (CF (k + 5) f__law_note [encC R N] T) Q E := fun Q E T h => e_note (k := k + 4) (by omega) (by omega) sa sb na nb h
  have cl_ : ∀ Q E (T : Sto), Q (.str (driveT L)) T → WR (CF (k + 5) f__law_line [.fl (L.map encPt)] T) Q E := fun Q E T h => w_line (k := k + 4) (l := L) rfl (by omega) sp np h
  have cfc : ∀ Q E (T : Sto), Q (.str (cityT R N)) T → WR (CF (k + 5) f_format_city [encC R N] T) Q E := fun Q E T h => w_fcity (k := k) town_L (by omega) (by omega) sa sb h
  have cfd : ∀ Q E (T : Sto), Q (.str (driveT L)) T → WR (CF (k + 5) f_format_drive [.fl (L.map encPt)] T) Q E := fun Q E T h => w_fdrive (k := k + 2) (l := L) rfl np (by omega) (fun p hp => (sp p hp).sp) h
  have cpc : ∀ Q E (T : Sto), Q (encC R N) T → WR (CF (k + 5) f_parse_city [.str (cityT R N)] T) Q E := fun Q E T h => w_pcity (k := k) town_L (by omega) (by omega) sa sb na nb h
  have cpd : ∀ Q E (T : Sto), (∀ K n, (T ++ K)[n]? = some (.lst (L.map encPt)) → T.length ≤ n → Q (.loc n) (T ++ K)) → WR (CF (k + 5) f_parse_drive [.str (driveT L)] T) Q E := fun Q E T h => w_pdrive (k := k + 2) np (by omega) (fun p hp => (sp p hp).sp) h
  have cE : ∀ T, cmpD .NotEq (encC R N) (encC R N) T = some false := fun T => ne_cl (cl_cityT oa ob) (cl_cityT oa ob) (by decide) (by decide) (by simp)
  have pE : ∀ T, cmpD .Eq (.fl (L.map encPt)) (.fl (L.map encPt)) T = some true := fun T => eq_cl cl_ptsL cl_ptsL (by decide) (by decide) (by simp)
  have sE : ∀ (z : Str) T, cmpD .NotEq (.str z) (.str z) T = some false := fun z T => by
    show some (!(z == z)) = _
    simp
  have sE2 : ∀ (z : Str) T, cmpD .Eq (.str z) (.str z) T = some true := fun z T => by
    show some (z == z) = _
    simp
  have ltp : ∀ j, ltL j (L.map encPt) = true := fun j => ltL_map' fun p => by simp
  have pw30 : powOk 10 30 = true := by decide +kernel
  have pw9 : powOk 10 9 = true := by decide +kernel
  have lC : ∀ S, lenD (.str (cityT R N)) S = some (cityT R N).length := fun S => by
    show (if (cityT R N).length ≤ sizeLine then some (cityT R N).length else none) = _
    rw [if_pos (Nat.le_trans city_L (by decide))]
  have lD : ∀ S, lenD (.str (driveT L)) S = some (driveT L).length := fun S => by
    show (if (driveT L).length ≤ sizeLine then some (driveT L).length else none) = _
    rw [if_pos (Nat.le_trans drive_L (by decide))]
  have cL : ¬ (3000 : Int) < ((cityT R N).length : Nat) := by have := city_L; omega
  have dL : ((driveT L).length : Int) ≤ 3000 := by have := drive_L; omega
  have rg : ∀ n : Nat, rangeD 0 n = (List.range n).map fun i : Nat => D.int (i : Nat) := fun n => by
    unfold rangeD
    refine List.map_congr_left fun i _ => ?_
    rw [Int.zero_add]
  have par : ∀ i : Nat, ((i : Nat) : Int) % 2 = if i % 2 = 0 then 0 else 1 := fun i => by split <;> omega
  have ew0 : ∀ S, ixD (.str "EW") (.int 0) S = some (.str "E") := fun _ => rfl
  have ew1 : ∀ S, ixD (.str "EW") (.int 1) S = some (.str "W") := fun _ => rfl
  have ns0 : ∀ S, ixD (.str "NS") (.int 0) S = some (.str "N") := fun _ => rfl
  have ns1 : ∀ S, ixD (.str "NS") (.int 1) S = some (.str "S") := fun _ => rfl
  obtain ⟨EC, hEC⟩ : ∃ EC, EC = encC R N := ⟨_, rfl⟩
  have eEC : D.tup [encR R, encR N] = EC := hEC.symm
  have ltE : ∀ j, D.lt j EC = true := fun j => by rw [hEC]; simp
  rw [← hEC] at cn cfc cpc cE
  rw [cf_run (fd := fd__law_long_right) rfl rfl]
  show Ws (run W (CF (k + 5)) G bd__law_long_right [none, none, none, none, none, none, none] S) _
  unfold bd__law_long_right
  generalize CF (k + 5) = C at *
  refine s_seq (fun ρ S1 => S1 = S ∧ ρ = [some (encR R), none, none, none, none, none, none]) ?_ ?_
  · simp
    refine ⟨rfl, ?_⟩
    rw [rg]
    refine lc_m (m := List.range 40) (enc := fun i : Nat => D.int (i : Nat)) (fun k => encP (if k % 2 = 0 then "E" else "W", 10 ^ 30 + (k : Nat))) (by simp [sizeLine]) (fun i hi => ?_) ?_
    · simp [par, pw30]
      by_cases h : i % 2 = 0
      · simp [h, ew0, encP]
      · simp [h, ew1, encP]
    · rw [eR, fr_new (ltL_map' fun p => by simp)]
      simp [encR]
  rintro ρ S1 ⟨rfl, rfl⟩
  refine s_seq (fun ρ S2 => S2 = S1 ∧ ρ = [some (encR R), some (encR N), none, none, none, none, none]) ?_ ?_
  · simp
    refine ⟨rfl, ?_⟩
    rw [rg]
    refine lc_m (m := List.range 49) (enc := fun i : Nat => D.int (i : Nat)) (fun k => encP (if k % 2 = 0 then "N" else "S", 10 ^ 30 - 1 - (k : Nat))) (by simp [sizeLine]) (fun i hi => ?_) ?_
    · simp [par, pw30]
      by_cases h : i % 2 = 0
      · simp [h, ns0, encP]
      · simp [h, ns1, encP]
    · rw [eC, fr_new (ltL_map' fun p => by simp)]
      simp [encR]
  rintro ρ S2 ⟨rfl, rfl⟩
  generalize encR R = ER at *
  generalize encR N = EL at *
  generalize cityT R N = ct at *
  generalize driveT L = dt at *
  refine s_seq (fun ρ S3 => S3 = S2 ∧ ρ = [some ER, some EL, some (.str ct), none, none, none, none]) ?_ ?_
  · simp [eEC]
    refine cn _ _ _ ?_
    simp
  rintro ρ S3 ⟨rfl, rfl⟩
  refine s_seq (fun ρ S4 => S4 = S3 ∧ ρ = [some ER, some EL, some (.str ct), some EC, none, none, none]) ?_ ?_
  · simp
    refine cpc _ _ _ ?_
    simp
  rintro ρ S4 ⟨rfl, rfl⟩
  refine s_seq (fun ρ S5 => S5 = S4 ∧ ρ = [some ER, some EL, some (.str ct), some EC, none, none, none]) ?_ ?_
  · simp [lC, cL, eEC, cE]
    refine cfc _ _ _ ?_
    simp [sE]
  rintro ρ S5 ⟨rfl, rfl⟩
  obtain ⟨P, hP⟩ : ∃ P : Env → Sto → Prop, ∀ ρ S6, P ρ S6 ↔ ∃ K, S6 = S5 ++ K ∧ ρ = [some ER, some EL, some (.str ct), some EC, some (.fl (L.map encPt)), none, none] := ⟨_, fun _ _ => Iff.rfl⟩
  refine s_seq P ?_ ?_
  · rw [s_fz]
    simp
    refine ⟨rfl, ?_⟩
    rw [rg]
    refine lc_m (m := List.range 200) (enc := fun i : Nat => D.int (i : Nat)) (fun k : Nat => encPt ((k : Nat), 10 ^ 9 - (k : Nat))) (by simp [sizeLine]) (fun i hi => ?_) ?_
    · simp [pw9, encPt]
    · rw [eP]
      refine fz_any0 rfl (ds := L.map encPt) new_get (Nat.le_refl _) fun G1 => ?_
      exact (hP _ _).mpr ⟨G1, rfl, rfl⟩
  intro ρ S6 hz
  obtain ⟨K, rfl, rfl⟩ := (hP _ _).mp hz
  have cT : cutS S5 true (S5 ++ K) = S5 := cut_app
  generalize S5 ++ K = U at *
  refine s_seq (fun ρ S7 => S7 = U ∧ ρ = [some ER, some EL, some (.str ct), some EC, some (.fl (L.map encPt)), some (.str dt), none]) ?_ ?_
  · simp
    refine cl_ _ _ _ ?_
    simp
  rintro ρ S7 ⟨rfl, rfl⟩
  simp [lD, dL]
  refine cpd _ _ _ fun K2 n g hn => ?_
  rw [fr_ext2 g hn ltp]
  simp [pE]
  refine cfd _ _ _ ?_
  simp [sE2, cT]
  exact hQ
theorem w_long (hQ : Q (.bl true) S) : WR (CF (k + 6) f__law_long_right [] S) Q E :=
  w_longG (R := rowsL) (N := colsL) (L := ptsL) (fun p hp => (rowsL_sm p hp).1) (fun p hp => (colsL_sm p hp).1) (fun p hp => (ptsL_sm p hp).1) okR_rows okR_cols (fun e => by
    have := ptsL_len
    rw [e] at this
    cases this) rowsL_len colsL_len ptsL_len city_L drive_L (by unfold rowsL; rw [List.map_map]; rfl) (by unfold colsL; rw [List.map_map]; rfl) (by unfold ptsL; rw [List.map_map]; rfl) hQ
end
end CC
namespace CC
open PySem PySem.Spec PyProof.Rows L2 TL
@[irreducible] def hugeI : Int := 10 ^ 300
@[irreducible] def hugeJ : Int := 10 ^ 900
def hA : Runs := [("E", hugeI)]
def hB : Runs := [("N", 1)]
def hP : List (Int × Int) := [(hugeJ, 7), (0, 0)]
theorem numL_pow : ∀ k : Nat, numL (10 ^ k) = 49 :: List.replicate k 48
  | 0 => numL_lt (by decide)
  | k + 1 => by
    have h1 : 10 ^ (k + 1) = 10 * 10 ^ k := by rw [Nat.pow_succ, Nat.mul_comm]
    have h2 : 1 ≤ 10 ^ k := Nat.one_le_pow _ _ (by decide)
    have h3 : 10 * 10 ^ k / 10 = 10 ^ k := Nat.mul_div_cancel_left _ (by decide)
    have h4 : 10 * 10 ^ k % 10 = 0 := Nat.mul_mod_right _ _
    rw [h1, numL_step (by omega), h3, h4, numL_pow k, List.replicate_succ']
    rfl
theorem huge_nat : hugeI.toNat = 10 ^ 300 := by
  unfold hugeI
  decide +kernel
theorem huge_natJ : hugeJ.toNat = 10 ^ 900 := by
  unfold hugeJ
  decide +kernel
section
variable {k : Nat} {v : D} {S : Sto} {Q : D → Sto → Prop} {E : Nat → List D → Sto → Prop}
theorem mul_zero {n : Int} : tl (Txt.mul "0" n) = List.replicate n.toNat 48 := by
  have e : ("0" : Str) = ⟨#[48]⟩ := by with_unfolding_all rfl
  rw [e]
  exact mul_one_list 48 n
theorem mul_len {n : Int} : (Txt.mul "0" n).length = n.toNat := by
  rw [len_tl, mul_zero, List.length_replicate]
theorem huge_city : ("E1" : Str) ++ Txt.mul "0" 300 ++ (" | N1" : Str) = cityT hA hB := by
  refine ext_tl ?_
  unfold cityT
  rw [tl_append, tl_append, tl_append, tl_append, runsT_tl, runsT_tl, mul_zero]
  show tl ("E1" : Str) ++ List.replicate 300 48 ++ tl (" | N1" : Str) = tl (("E" : Str) ++ numS hugeI.toNat) ++ tl (" | " : Str) ++ tl (("N" : Str) ++ numS 1)
  rw [tl_append, tl_append, bar_tl, huge_nat]
  have e1 : tl ("E1" : Str) = [69, 49] := by with_unfolding_all rfl
  have e2 : tl (" | N1" : Str) = [32, 124, 32, 78, 49] := by with_unfolding_all rfl
  have e3 : tl ("E" : Str) = [69] := by with_unfolding_all rfl
  have e4 : tl ("N" : Str) = [78] := by with_unfolding_all rfl
  have e5 : tl (numS (10 ^ 300)) = 49 :: List.replicate 300 48 := numL_pow 300
  have e6 : tl (numS 1) = [49] := numL_lt (by decide)
  rw [e1, e2, e3, e4, e5, e6]
  simp
theorem huge_drive : ("1" : Str) ++ Txt.mul "0" 900 ++ (",7 0,0" : Str) = driveT hP := by
  refine ext_tl ?_
  rw [tl_append, tl_append, driveT_tl, mul_zero]
  show tl ("1" : Str) ++ List.replicate 900 48 ++ tl (",7 0,0" : Str) = tl (wP (hugeJ, 7)) ++ ([32] ++ tl (wP (0, 0)))
  rw [wP_tl, wP_tl]
  show tl ("1" : Str) ++ List.replicate 900 48 ++ tl (",7 0,0" : Str) = (numL hugeJ.toNat ++ 44 :: numL 7) ++ ([32] ++ (numL 0 ++ 44 :: numL 0))
  rw [huge_natJ, numL_pow, num0, show numL 7 = [55] from numL_lt (by decide)]
  have e1 : tl ("1" : Str) = [49] := by with_unfolding_all rfl
  have e2 : tl (",7 0,0" : Str) = [44, 55, 32, 48, 44, 48] := by with_unfolding_all rfl
  rw [e1, e2]
  simp
theorem huge_lo : 1 ≤ hugeI ∧ hugeI < 10 ^ 310 ∧ 0 ≤ hugeJ ∧ hugeJ < 10 ^ 1000 := by
  unfold hugeI hugeJ
  decide +kernel
theorem ev_mul {C : CallSem} {G : Nat → Option D} {a b : Xp} {ρ : Env} {i j : Int} (ha : ev C G a ρ S = .ok (.int i) S) (hb : ev C G b ρ S = .ok (.int j) S) (h : mulOk i j = true) : ev C G (.bin .Mult a b) ρ S = .ok (.int (i * j)) S := by
  show (ev C G a ρ S).bind (fun x S1 => (ev C G b ρ S1).bind fun y S2 => binD .Mult x y S2) = _
  rw [ha]
  show (ev C G b ρ S).bind (fun y S2 => binD .Mult (.int i) y S2) = _
  rw [hb]
  show (if mulOk i j then R.ok (D.int (i * j)) S else .bad) = _
  rw [if_pos h]
theorem w_huge {C : CallSem} {G : Nat → Option D} {ρ : Env} : WR (ev C G (.bin .Mult (.bin .Mult (.bin .Mult (.bin .Mult (.bin .Pow (.int 10) (.int 60)) (.bin .Pow (.int 10) (.int 60))) (.bin .Pow (.int 10) (.int 60))) (.bin .Pow (.int 10) (.int 60))) (.bin .Pow (.int 10) (.int 60))) ρ S) Q E = Q (.int hugeI) S := by
  have e60 : ev C G (.bin .Pow (.int 10) (.int 60)) ρ S = .ok (.int (10 ^ 60)) S := by
    show (if powOk 10 60 then R.ok (D.int (10 ^ (60 : Int).toNat)) S else .bad) = _
    rw [if_pos (by decide +kernel)]
    rfl
  have h : ev C G (.bin .Mult (.bin .Mult (.bin .Mult (.bin .Mult (.bin .Pow (.int 10) (.int 60)) (.bin .Pow (.int 10) (.int 60))) (.bin .Pow (.int 10) (.int 60))) (.bin .Pow (.int 10) (.int 60))) (.bin .Pow (.int 10) (.int 60))) ρ S = .ok (.int (((((10 : Int) ^ 60 * 10 ^ 60) * 10 ^ 60) * 10 ^ 60) * 10 ^ 60)) S :=
    ev_mul (ev_mul (ev_mul (ev_mul e60 e60 (by decide +kernel)) e60 (by decide +kernel)) e60 (by decide +kernel)) e60 (by decide +kernel)
  have e : (((((10 : Int) ^ 60 * 10 ^ 60) * 10 ^ 60) * 10 ^ 60) * 10 ^ 60) = hugeI := by
    unfold hugeI
    decide +kernel
  rw [h, e]
  rfl
theorem w_mulS {n : Int} (h0 : 0 ≤ n) (h1 : n ≤ 1048576) : WR (mulSF [.str "0", .int n] S) Q E = Q (.str (Txt.mul "0" n)) S := by
  have l1 : ("0" : Str).length ≤ 16 := by decide +kernel
  show WR (if (decide (("0" : Str).length ≤ 16) && (decide (0 ≤ n) && decide (n ≤ 1048576))) = true then .ok (.str (Txt.mul "0" n)) S else .bad) Q E = _
  rw [if_pos (by simp only [l1, h0, h1, decide_true, Bool.and_self])]
  rfl
theorem setSl_at {n m j : Nat} {ds es : List D} (h : S[n]? = some (.lst ds)) (g : S[m]? = some (.lst es)) (ne : n ≠ m) (hz : ds.length + es.length ≤ sizeLine) : setSl (.loc n) (some (j : Nat)) none (.loc m) S = some (S.set n (.lst (ds.take j ++ es))) := by
  show (match S[n]?, S[m]? with
    | some (.lst ds), some (.lst es) => if n ≠ m ∧ ds.length + es.length ≤ sizeLine then some (S.set n (.lst (putSl ds es (some (j : Nat)) none))) else none
    | _, _ => none) = _
  rw [h, g]
  show (if n ≠ m ∧ ds.length + es.length ≤ sizeLine then some (S.set n (.lst (putSl ds es (some (j : Nat)) none))) else none) = _
  rw [if_pos ⟨ne, hz⟩]
  unfold putSl
  rw [HT.sIx_nat, HT.sIx_none, Nat.max_eq_right (Nat.min_le_right _ _), List.drop_length, List.append_nil]
  congr 4
  rw [List.take_eq_take_iff]
  omega
end
end CC
namespace CC
open PySem PySem.Spec PyProof.Rows L2 TL
section
variable {k : Nat} {v : D} {S : Sto} {Q : D → Sto → Prop} {E : Nat → List D → Sto → Prop}
theorem hA_sm : ∀ p ∈ hA, SmR p := fun p hp => by
  rw [List.mem_singleton.mp hp]
  have := huge_lo
  exact ⟨⟨69, by with_unfolding_all rfl, by decide, by decide⟩, by show 0 ≤ hugeI; omega, this.2.1⟩
theorem hB_sm : ∀ p ∈ hB, SmR p := fun p hp => by
  rw [List.mem_singleton.mp hp]
  exact ⟨⟨78, by with_unfolding_all rfl, by decide, by decide⟩, by decide, by show (1 : Int) < 10 ^ 310; decide +kernel⟩
theorem hP_sp : ∀ p ∈ hP, Sp p := fun p hp => by
  have := huge_lo
  have h7 : (7 : Int) < 10 ^ 1000 := by decide +kernel
  have h0 : (0 : Int) < 10 ^ 1000 := by decide +kernel
  simp only [hP, List.mem_cons, List.not_mem_nil, or_false] at hp
  rcases hp with rfl | rfl
  · exact ⟨this.2.2.1, this.2.2.2, by decide, h7⟩
  · exact ⟨by decide, h0, by decide, h0⟩
theorem hOA : okR "E" "W" hA = true := by
  have := huge_lo.1
  show (true && (((("E" : Str) == "E") || ("E" : Str) == "W") && decide (1 ≤ hugeI) && true) && true) = true
  rw [decide_eq_true this]
  decide +kernel
theorem hOB : okR "N" "S" hB = true := by decide +kernel
theorem hTown : Town hA hB := ⟨hOA, hOB, by decide, by decide⟩
def s1A : Runs := [("E", 1), ("W", 12)]
def s1B : Runs := [("S", 100)]
theorem s1A_sm : ∀ p ∈ s1A, SmR p := fun p hp => by
  have h0 : (12 : Int) < 10 ^ 310 := by decide +kernel
  simp only [s1A, List.mem_cons, List.not_mem_nil, or_false] at hp
  rcases hp with rfl | rfl
  · exact ⟨⟨69, by with_unfolding_all rfl, by decide, by decide⟩, by decide, by show (1 : Int) < 10 ^ 310; omega⟩
  · exact ⟨⟨87, by with_unfolding_all rfl, by decide, by decide⟩, by decide, h0⟩
theorem s1B_sm : ∀ p ∈ s1B, SmR p := fun p hp => by
  rw [List.mem_singleton.mp hp]
  exact ⟨⟨83, by with_unfolding_all rfl, by decide, by decide⟩, by decide, by show (100 : Int) < 10 ^ 310; decide +kernel⟩
theorem s1_text : cityT s1A s1B = "E1 W12 | S100" := by
  refine ext_tl ?_
  decide +kernel
theorem d0_text : driveT [(0, 0)] = "0,0" := by
  refine ext_tl ?_
  decide +kernel
theorem sp00 : ∀ p ∈ [((0 : Int), (0 : Int))], Sp p := fun p hp => by
  have h0 : (0 : Int) < 10 ^ 1000 := by decide +kernel
  rw [List.mem_singleton.mp hp]
  exact ⟨by decide, h0, by decide, h0⟩
theorem w_tail41 {C : CallSem} {Q : D → Sto → Prop} {E : Nat → List D → Sto → Prop} (hC : C = CF (k + 6)) {ρ0 : Env} (hQ : ∀ T, Q (.bl true) T) {u0 u1 u2 u3 u4 u5 u6 u7 u8 u9 u10 u11 : Option D} {p : Po} (hp : ∀ T, p.rt (.bl true) T) :
    Ws (run W C G (match bd_law with
      | .cons _ r => r
      | s => s) [u0, u1, u2, u3, u4, u5, u6, u7, u8, u9, u10, u11] S) p := by
  have lt0 : ∀ j, ltL j ([((0 : Int), (0 : Int))].map encPt) = true := fun j => ltL_map' fun p => by simp
  have lthP : ∀ j, ltL j (hP.map encPt) = true := fun j => ltL_map' fun p => by simp
  have hz1 : 16000000 ≤ sizeLine := by decide
  have c1 : ∀ Q E (T : Sto), Q (.str "E1 W12 | S100") T → WR (C f_format_city [encC s1A s1B] T) Q E := fun Q E T h => by
    rw [hC]
    refine w_fcity (k := k + 1) ⟨by decide +kernel, by decide +kernel, by decide, by decide⟩ (by decide) (by decide) s1A_sm s1B_sm ?_
    rw [s1_text]
    exact h
  have c2 : ∀ Q E E' (T : Sto), Q (.fl [.tup [.int 0, .int 0]]) T → WR (C f_parse_drive [.str "0,0"] T) (fun x S1 => WR (trim T (frzD x S1)) Q E) E' := fun Q E E' T h => by
    rw [hC, ← d0_text]
    refine w_pdrive (k := k + 3) (by simp) (by simp) sp00 fun K n g hn => ?_
    rw [fr_ext2 g hn lt0]
    exact h
  have c3 : ∀ Q E (T : Sto), Q (encC hA hB) T → WR (C f_parse_city [.str (("E1" : Str) ++ Txt.mul "0" 300 ++ (" | N1" : Str))] T) Q E := fun Q E T h => by
    rw [hC, huge_city]
    exact w_pcity (k := k + 1) hTown (by decide) (by decide) hA_sm hB_sm (by simp [hA]) (by simp [hB]) h
  have c4 : ∀ Q E E' (T : Sto), Q (.fl (hP.map encPt)) T → WR (C f_parse_drive [.str (("1" : Str) ++ Txt.mul "0" 900 ++ (",7 0,0" : Str))] T) (fun x S1 => WR (trim T (frzD x S1)) Q E) E' := fun Q E E' T h => by
    rw [hC, huge_drive]
    refine w_pdrive (k := k + 3) (by simp [hP]) (by simp [hP]) hP_sp fun K n g hn => ?_
    rw [fr_ext2 g hn lthP]
    exact h
  have c5 : ∀ Q E (T : Sto), Q (.str (("E1" : Str) ++ Txt.mul "0" 300 ++ (" | N1" : Str))) T → WR (C f_format_city [encC hA hB] T) Q E := fun Q E T h => by
    rw [hC]
    refine w_fcity (k := k + 1) hTown (by decide) (by decide) hA_sm hB_sm ?_
    rw [← huge_city]
    exact h
  have c6 : ∀ Q E (T : Sto), Q (.str (("1" : Str) ++ Txt.mul "0" 900 ++ (",7 0,0" : Str))) T → WR (C f_format_drive [.fl (hP.map encPt)] T) Q E := fun Q E T h => by
    rw [hC]
    refine w_fdrive (k := k + 3) (l := hP) rfl (by simp [hP]) (by simp [hP]) hP_sp ?_
    rw [← huge_drive]
    exact h
  have c7 : ∀ Q E (T : Sto), Q (.bl true) T → WR (C f__law_long_right [] T) Q E := fun Q E T h => by
    rw [hC]
    exact w_long (k := k) h
  have m3 : ∀ Q E (T : Sto), WR (mulSF [.str "0", .int 300] T) Q E = Q (.str (Txt.mul "0" 300)) T := fun Q E T => w_mulS (by decide) (by decide)
  have m9 : ∀ Q E (T : Sto), WR (mulSF [.str "0", .int 900] T) Q E = Q (.str (Txt.mul "0" 900)) T := fun Q E T => w_mulS (by decide) (by decide)
  have l3 : (Txt.mul "0" 300).length = 300 := mul_len
  have l9 : (Txt.mul "0" 900).length = 900 := mul_len
  have lE1 : ("E1" : Str).length = 2 := by with_unfolding_all rfl
  have lN1 : (" | N1" : Str).length = 5 := by with_unfolding_all rfl
  have l1 : ("1" : Str).length = 1 := by with_unfolding_all rfl
  have l7 : (",7 0,0" : Str).length = 6 := by with_unfolding_all rfl
  have sE : ∀ (z : Str) T, cmpD .NotEq (.str z) (.str z) T = some false := fun z T => by
    show some (!(z == z)) = _
    simp
  have e0 : ∀ T, cmpD .NotEq (.fl [.tup [.int 0, .int 0]]) (.fl [.tup [.int 0, .int 0]]) T = some false := fun T => by
    have c : cl 2 (.fl [.tup [.int 0, .int 0]]) = true := rfl
    exact ne_cl c c (by decide) (by decide) (by simp)
  obtain ⟨HC, hHC⟩ : ∃ HC, HC = encC hA hB := ⟨_, rfl⟩
  obtain ⟨HP, hHP⟩ : ∃ HP, HP = D.fl (hP.map encPt) := ⟨_, rfl⟩
  have clC : cl 3 HC = true := by rw [hHC]; exact cl_cityT hOA hOB
  have clP : cl 2 HP = true := by rw [hHP]; exact cl_ptsL
  have e1 : ∀ T, cmpD .NotEq (.fl [HC, HP]) (.fl [HC, HP]) T = some false := fun T => by
    have c : cl 4 (.fl [HC, HP]) = true := by
      show ([HC, HP].all (cl 3)) = true
      simp only [List.all_cons, List.all_nil, Bool.and_true, Bool.and_eq_true]
      exact ⟨clC, by rw [hHP]; show (hP.map encPt).all (cl 2) = true; rw [List.all_eq_true]; intro d hd; obtain ⟨p, _, rfl⟩ := List.mem_map.mp hd; rfl⟩
    exact ne_cl c c (by decide) (by decide) (by simp)
  have eH : D.tup [.tup [.tup [.str "E", .int hugeI]], .tup [.tup [.str "N", .int 1]]] = HC := by rw [hHC]; rfl
  have eS : D.tup [.tup [.tup [.str "E", .int 1], .tup [.str "W", .int 12]], .tup [.tup [.str "S", .int 100]]] = encC s1A s1B := rfl
  have ltC : ∀ j, D.lt j HC = true := fun j => by rw [hHC]; simp
  have ltP : ∀ j, D.lt j HP = true := fun j => by rw [hHP, lt_fl]; exact lthP j
  rw [← hHC] at c3 c5
  rw [← hHP] at c4 c6
  clear hHC hHP clC clP lthP lt0
  have wh : ∀ {ρ : Env} {S : Sto} {Q : D → Sto → Prop} {E : Nat → List D → Sto → Prop}, WR (ev C G (.bin .Mult (.bin .Mult (.bin .Mult (.bin .Mult (.bin .Pow (.int 10) (.int 60)) (.bin .Pow (.int 10) (.int 60))) (.bin .Pow (.int 10) (.int 60))) (.bin .Pow (.int 10) (.int 60))) (.bin .Pow (.int 10) (.int 60))) ρ S) Q E = Q (.int hugeI) S := w_huge
  obtain ⟨Z3, hZ3⟩ : ∃ Z, Z = Txt.mul "0" 300 := ⟨_, rfl⟩
  obtain ⟨Z9, hZ9⟩ : ∃ Z, Z = Txt.mul "0" 900 := ⟨_, rfl⟩
  rw [← hZ3] at c3 c5 l3
  rw [← hZ9] at c4 c6 l9
  simp only [← hZ3] at m3
  simp only [← hZ9] at m9
  clear hZ3 hZ9
  clear hC
  unfold bd_law
  simp only
  refine s_seq (fun ρ S1 => S1 = S ∧ ρ = [u0, u1, u2, u3, u4, u5, some (encC s1A s1B), u7, u8, u9, u10, u11]) ?_ ?_
  · simp [eS]
  rintro ρ S1 ⟨rfl, rfl⟩
  refine s_seq (fun ρ S2 => S2 = S1 ∧ ρ = [u0, u1, u2, u3, u4, u5, some (encC s1A s1B), u7, u8, u9, u10, u11]) ?_ ?_
  · generalize encC s1A s1B = es at *
    simp
    refine c1 _ _ _ ?_
    simp [sE]
    refine c2 _ _ _ _ ?_
    simp [e0]
  rintro ρ S2 ⟨rfl, rfl⟩
  refine s_seq (fun ρ S3 => S3 = S2 ∧ ρ = [u0, u1, u2, u3, u4, u5, some (encC s1A s1B), u7, u8, u9, some (.fl [HC, HP]), u11]) ?_ ?_
  · generalize encC s1A s1B = es at *
    simp [m3, m9, Str.length_append, lE1, lN1, l1, l7, l3, l9]
    refine ⟨by omega, by omega, ?_⟩
    refine c3 _ _ _ ?_
    refine ⟨by omega, by omega, ?_⟩
    refine c4 _ _ _ _ ?_
    rw [fr_new (by simp [ltC, ltP])]
    simp
  rintro ρ S3 ⟨rfl, rfl⟩
  refine s_seq (fun ρ S4 => S4 = S3 ∧ ρ = [u0, u1, u2, u3, u4, u5, some (encC s1A s1B), u7, u8, u9, some (.fl [HC, HP]), u11]) ?_ ?_
  · generalize encC s1A s1B = es at *
    have at1 : atI [HC, HP] 1 = some HP := rfl
    simp [↓wh, at1, eH]
    rw [fr_new (by simp [ltC, ltP])]
    simp [e1]
  rintro ρ S4 ⟨rfl, rfl⟩
  refine s_seq (fun ρ S5 => S5 = S4 ∧ ρ = [u0, u1, u2, u3, u4, u5, some (encC s1A s1B), u7, u8, u9, some (.fl [HC, HP]), u11]) ?_ ?_
  · generalize encC s1A s1B = es at *
    have at0 : atI [HC, HP] 0 = some HC := rfl
    have at1 : atI [HC, HP] 1 = some HP := rfl
    simp [at0, at1]
    refine c5 _ _ _ ?_
    simp [m3, m9, Str.length_append, lE1, lN1, l1, l7, l3, l9, sE]
    refine ⟨by omega, by omega, ?_⟩
    refine c6 _ _ _ ?_
    refine ⟨by omega, by omega, ?_⟩
    simp [sE]
  rintro ρ S5 ⟨rfl, rfl⟩
  simp
  refine c7 _ _ _ ?_
  exact hp _
end
end CC
namespace CC
open PySem PySem.Spec PyProof.Rows L2 TL
theorem cut_get {S S' : Sto} {b : Bool} {i : Nat} (h : i < S.length) : (cutS S b S')[i]? = S'[i]? := by
  unfold cutS
  split
  · rw [List.getElem?_take_of_lt h]
  · rfl
theorem law_thm : ∀ ns : List Int, ns.length ≤ 63 → ∃ S', CF 7 f_law [.loc 0] [.frz (ns.map D.int)] = .ok (.bl true) S' := by
  intro ns hl
  refine law_end ?_
  obtain ⟨F, hF⟩ : ∃ F, F = SO.frz (ns.map D.int) := ⟨_, rfl⟩
  have h0 : ([SO.frz (ns.map D.int)] : Sto)[0]? = some (.frz (ns.map D.int)) := rfl
  rw [cf_run (fd := fd_law) rfl rfl]
  show Ws (run W (CF 6) G bd_law [some (.loc 0), none, none, none, none, none, none, none, none, none, none, none] [SO.frz (ns.map D.int)]) _
  have ds : ∀ {S : Sto} {i : Nat} {Q E}, S[0]? = some F → i < 1000 → (∀ b, BagOk b 0 → Q (.loc S.length) (S ++ [b])) → WR (CF 6 f__law_source [.loc 0, .int (i : Nat)] S) Q E := fun g hi hq => w_source (k := 5) (by rw [← hF]; exact g) hi hq
  have dr : ∀ {n : Nat} {j c : Int} {b : SO} {S : Sto} {Q E}, S[n]? = some b → BagOk b c → c < 2 ^ 60 → 0 < j → j < 2 ^ 200 → (∀ r b', 0 ≤ r → r < j → BagOk b' (c + 1) → Q (.int r) (S.set n b')) → WR (CF 6 f__law_draw [.loc n, .int j] S) Q E := fun h1 h2 h3 h4 h5 h6 => w_draw (k := 5) h1 h2 h3 h4 h5 h6
  have dt : ∀ {n : Nat} {mo wi c : Int} {b : SO} {S : Sto} {Q E}, S[n]? = some b → BagOk b c → c < 2 ^ 58 → 0 < mo → mo ≤ 20 → 0 < wi → wi ≤ 10 ^ 30 → (∀ x y b', TownB x y → BagOk b' (c + 200) → Q (encC x y) (S.set n b')) → WR (CF 6 f__law_town [.loc n, .int mo, .int wi] S) Q E := fun h1 h2 h3 h4 h5 h6 h7 h8 => w_town (k := 3) h1 h2 h3 h4 h5 h6 h7 h8
  have dp : ∀ {n : Nat} {far c : Int} {b : SO} {S : Sto} {Q E}, S[n]? = some b → BagOk b c → c < 2 ^ 59 → 1 ≤ far → far ≤ 10 ^ 31 → (∀ p b', SmP p → BagOk b' (c + 4) → Q (encPt p) (S.set n b')) → WR (CF 6 f__law_point [.loc n, .int far] S) Q E := fun h1 h2 h3 h4 h5 h6 => w_point (k := 4) h1 h2 h3 h4 h5 h6
  have db : ∀ {a b : Runs} {x : D} {l : List (Int × Int)} {S : Sto} {Q E}, TownB a b → lstM S x = some (l.map encPt) → l ≠ [] → l.length ≤ 100 → (∀ p ∈ l, SmP p) → Q (.bl true) S → WR (CF 6 f__law_both_ways [encC a b, x] S) Q E := fun h1 h2 h3 h4 h5 h6 => w_both (k := 0) h1 h2 h3 h4 h5 h6
  obtain ⟨R1, hR1⟩ : ∃ R1, R1 = (match bd_law with
    | .cons _ r => r
    | s => s) := ⟨_, rfl⟩
  have de : ∀ {S : Sto} {u0 u1 u2 u3 u4 u5 u6 u7 u8 u9 u10 u11 : Option D} {p : Po}, (∀ T, p.rt (.bl true) T) → Ws (run W (CF 6) G R1 [u0, u1, u2, u3, u4, u5, u6, u7, u8, u9, u10, u11] S) p := fun hp => by
    rw [hR1]
    exact w_tail41 (k := 0) (Q := fun _ _ => True) (E := fun _ _ _ => True) (ρ0 := []) rfl (fun _ => trivial) hp
  have eB : bd_law = .cons (match bd_law with
    | .cons f _ => f
    | s => s) R1 := by rw [hR1]; rfl
  rw [eB]
  clear hR1 eB
  generalize CF 6 = C at *
  have p30 : powOk 10 30 = true := by decide +kernel
  have p10 : powOk 10 10 = true := by decide +kernel
  have p31 : powOk 10 31 = true := by decide +kernel
  have d2 : divOk 2 = true := by decide +kernel
  obtain ⟨I, hI⟩ : ∃ I : Nat → Env → Sto → Prop, ∀ i ρ S1, I i ρ S1 ↔ ∃ u1 u2 u3 u4 u5 u6 u7 u8 u9 u10 u11 : Option D, ρ = [some (.loc 0), u1, u2, u3, u4, u5, u6, u7, u8, u9, u10, u11] ∧ S1[0]? = some F := ⟨_, fun _ _ _ => Iff.rfl⟩
  refine s_seq (I 0) ?_ ?_
  · unfold bd_law
    simp only
    simp [lst_frz h0]
    have hm : (if (1 : Int) < if (ns.length : Int) < 6 then (ns.length : Int) else 6 then if (ns.length : Int) < 6 then (ns.length : Int) else 6 else 1) ≤ 6 := by
      split <;> split <;> omega
    have hm0 : 0 ≤ (if (1 : Int) < if (ns.length : Int) < 6 then (ns.length : Int) else 6 then if (ns.length : Int) < 6 then (ns.length : Int) else 6 else 1) := by
      split <;> split <;> omega
    generalize (if (1 : Int) < if (ns.length : Int) < 6 then (ns.length : Int) else 6 then if (ns.length : Int) < 6 then (ns.length : Int) else 6 else 1) = m at *
    refine ⟨small62_of (by omega) (by omega), ?_⟩
    refine ws_range I ?_ (fun ρ S1 hz => (hI _ _ _).mpr ((hI _ _ _).mp hz)) ((hI _ _ _).mpr ⟨_, _, _, _, _, _, _, _, _, _, _, rfl, by rw [hF]; rfl⟩)
    intro i ρ S hi hz
    obtain ⟨u1, u2, u3, u4, u5, u6, u7, u8, u9, u10, u11, rfl, h0⟩ := (hI _ _ _).mp hz
    clear hz
    have hS := old_lt h0
    have hSn : S.length ≠ 0 := by omega
    have e0 : ((0 : Int) + (i : Nat)) = (i : Nat) := by omega
    rw [e0]
    simp only [List.set_cons_succ, List.set_cons_zero]
    obtain ⟨P1, hP1⟩ : ∃ P : Env → Sto → Prop, ∀ ρ S1, P ρ S1 ↔ ∃ b, BagOk b 0 ∧ S1 = S ++ [b] ∧ ρ = [some (.loc 0), some (.int (i : Nat)), some (.loc S.length), u3, u4, u5, u6, u7, u8, u9, u10, u11] := ⟨_, fun _ _ => Iff.rfl⟩
    refine s_seq P1 ?_ ?_
    · simp
      refine ds h0 (by omega) fun b hb => ?_
      exact (hP1 _ _).mpr ⟨b, hb, rfl, rfl⟩
    intro ρ S1 hz
    obtain ⟨b, hb, rfl, rfl⟩ := (hP1 _ _).mp hz
    clear hz hP1 P1
    obtain ⟨n, hn⟩ : ∃ n, n = S.length := ⟨_, rfl⟩
    rw [← hn] at hS hSn
    obtain ⟨J, hJ⟩ : ∃ J : Nat → Env → Sto → Prop, ∀ j ρ S1, J j ρ S1 ↔ ∃ (b' : SO) (u3 u4 u5 u6 u7 u8 u9 u10 u11 : Option D), S1[n]? = some b' ∧ S1[0]? = some F ∧ BagOk b' (1000 * j) ∧ ρ = [some (.loc 0), some (.int (i : Nat)), some (.loc n), u3, u4, u5, u6, u7, u8, u9, u10, u11] := ⟨_, fun _ _ _ => Iff.rfl⟩
    simp
    refine ⟨by decide +kernel, ?_⟩
    refine ws_range J ?_ ?_ ((hJ _ _ _).mpr ⟨b, _, _, _, _, _, _, _, _, _, by rw [hn]; exact new_get, by rw [List.getElem?_append_left (by omega)]; exact h0, hb.le (by omega), by rw [hn]⟩)
    · intro j ρ S1 hj hz
      obtain ⟨b2, v3, v4, v5, v6, v7, v8, v9, v10, v11, g1, g2, hb2, rfl⟩ := (hJ _ _ _).mp hz
      clear hz hb hn
      have hj2 : (1000 * (j : Int)) ≤ 1000 := by omega
      have ltn := old_lt g1
      have ltb : ∀ {b' : SO} {c : Int}, BagOk b' c → ∀ q, b'.lt q = true := fun h q => h.ltS
      have k0 : ∀ (b' : SO), (S1.set n b')[0]? = some F := fun b' => by rw [List.getElem?_set_ne hSn]; exact g2
      obtain ⟨P2, hP2⟩ : ∃ P : Env → Sto → Prop, ∀ ρ S2, P ρ S2 ↔ ∃ (b : SO) (mo wi : Int) (w3 : Option D), BagOk b (1000 * j + 2) ∧ 0 < mo ∧ mo ≤ 20 ∧ 0 < wi ∧ wi ≤ 10 ^ 30 ∧ S2 = S1.set n b ∧ ρ = [some (.loc 0), some (.int (i : Nat)), some (.loc n), w3, some (.int mo), some (.int wi), v6, v7, v8, v9, v10, v11] := ⟨_, fun _ _ => Iff.rfl⟩
      obtain ⟨L, hL⟩ : ∃ L : Nat → List D → Sto → Prop, ∀ q acc S3, L q acc S3 ↔ ∃ (b : SO) (l : List (Int × Int)), BagOk b (1000 * j + 205 + 4 * q) ∧ acc = l.map encPt ∧ l.length = q ∧ (∀ p ∈ l, SmP p) ∧ S3 = S1.set n b := ⟨_, fun _ _ _ => Iff.rfl⟩
      obtain ⟨P5, hP5⟩ : ∃ P : Env → Sto → Prop, ∀ ρ S2, P ρ S2 ↔ ∃ (b : SO) (l : List (Int × Int)) (z mo wi far : Int) (x y : Runs) (w3 : Option D), BagOk b (1000 * j + 400) ∧ TownB x y ∧ 1 ≤ far ∧ far ≤ 10 ^ 31 ∧ 1 ≤ z ∧ z ≤ 40 ∧ l.length = z.toNat ∧ (∀ p ∈ l, SmP p) ∧ S2 = S1.set n b ++ [.lst (l.map encPt)] ∧ ρ = [some (.loc 0), some (.int (i : Nat)), some (.loc n), w3, some (.int mo), some (.int wi), some (encC x y), some (.int far), some (.int z), some (.loc S1.length), v10, v11] := ⟨_, fun _ _ => Iff.rfl⟩
      obtain ⟨P6, hP6⟩ : ∃ P : Env → Sto → Prop, ∀ ρ S2, P ρ S2 ↔ ∃ (b : SO) (l : List (Int × Int)) (z mo wi far : Int) (x y : Runs) (w3 : Option D), BagOk b (1000 * j + 410) ∧ TownB x y ∧ l ≠ [] ∧ l.length ≤ 100 ∧ (∀ p ∈ l, SmP p) ∧ S2[n]? = some b ∧ S2[0]? = some F ∧ ρ = [some (.loc 0), some (.int (i : Nat)), some (.loc n), w3, some (.int mo), some (.int wi), some (encC x y), some (.int far), some (.int z), some (.fl (l.map encPt)), v10, v11] := ⟨_, fun _ _ => Iff.rfl⟩
      simp only [List.set_cons_succ, List.set_cons_zero]
      refine s_seq P2 ?_ ?_
      · simp
        refine dr g1 hb2 (by omega) (by decide) (by decide) fun r b3 r0 r1 hb3 => ?_
        rcases (by omega : r = 0 ∨ r = 1) with rfl | rfl
        all_goals
          simp [p30]
          refine dr (set_get g1) hb3 (by omega) (by decide) (by decide) fun q b4 q0 q1 hb4 => ?_
          rw [List.set_set]
          rcases (by omega : q = 0 ∨ q = 1) with rfl | rfl
          all_goals
            simp
            exact (hP2 _ _).mpr ⟨b4, _, _, _, hb4.le (by omega), by decide, by decide, by decide, by decide, rfl, rfl⟩
      intro ρ S2 hz
      obtain ⟨b3, mo, wi, w3, hb3, mo0, mo1, wi0, wi1, rfl, rfl⟩ := (hP2 _ _).mp hz
      clear hz hP2 P2
      obtain ⟨P3, hP3⟩ : ∃ P : Env → Sto → Prop, ∀ ρ S2, P ρ S2 ↔ ∃ (b : SO) (x y : Runs) (far : Int), BagOk b (1000 * j + 203) ∧ TownB x y ∧ 1 ≤ far ∧ far ≤ 10 ^ 31 ∧ S2 = S1.set n b ∧ ρ = [some (.loc 0), some (.int (i : Nat)), some (.loc n), w3, some (.int mo), some (.int wi), some (encC x y), some (.int far), v8, v9, v10, v11] := ⟨_, fun _ _ => Iff.rfl⟩
      refine s_seq P3 ?_ ?_
      · simp
        refine dt (set_get g1) hb3 (by omega) mo0 mo1 wi0 wi1 fun x y b4 tw hb4 => ?_
        rw [List.set_set]
        simp [p10, p31]
        refine dr (set_get g1) hb4 (by omega) (by decide) (by decide) fun r b5 r0 r1 hb5 => ?_
        rw [List.set_set]
        rcases (by omega : r = 0 ∨ r = 1 ∨ r = 2) with rfl | rfl | rfl
        all_goals
          simp
          exact (hP3 _ _).mpr ⟨b5, x, y, _, hb5.le (by omega), tw, by decide, by decide, rfl, rfl⟩
      intro ρ S2 hz
      obtain ⟨b4, x, y, far, hb4, tw, far0, far1, rfl, rfl⟩ := (hP3 _ _).mp hz
      clear hz hP3 P3 hb3 b3
      obtain ⟨P4, hP4⟩ : ∃ P : Env → Sto → Prop, ∀ ρ S2, P ρ S2 ↔ ∃ (b : SO) (z : Int), BagOk b (1000 * j + 205) ∧ 1 ≤ z ∧ z ≤ 40 ∧ S2 = S1.set n b ∧ ρ = [some (.loc 0), some (.int (i : Nat)), some (.loc n), w3, some (.int mo), some (.int wi), some (encC x y), some (.int far), some (.int z), v9, v10, v11] := ⟨_, fun _ _ => Iff.rfl⟩
      refine s_seq P4 ?_ ?_
      · simp
        refine dr (set_get g1) hb4 (by omega) (by decide) (by decide) fun r b5 r0 r1 hb5 => ?_
        rw [List.set_set]
        rcases (by omega : r = 0 ∨ r = 1) with rfl | rfl
        all_goals
          simp
          refine dr (set_get g1) hb5 (by omega) (by decide) (by decide) fun q b6 q0 q1 hb6 => ?_
          rw [List.set_set]
          exact (hP4 _ _).mpr ⟨b6, 1 + q, hb6.le (by omega), by omega, by omega, rfl, rfl⟩
      intro ρ S2 hz
      obtain ⟨b5, z, hb5, z0, z1, rfl, rfl⟩ := (hP4 _ _).mp hz
      clear hz hP4 P4 hb4 b4
      have sz : small62 z = true := small62_of (by omega) (by omega)
      refine s_seq P5 ?_ ?_
      · simp [sz]
        refine wp_lcl z.toNat L ?_ ?_ _ 0 [] _ (Nat.zero_le _) (by show z.toNat < 0 + ((rangeD 0 z.toNat).length + 1); rw [rangeD_len]; omega) ((hL _ _ _).mpr ⟨b5, [], hb5.le (by omega), rfl, rfl, (fun _ h => nomatch h), rfl⟩)
        · intro q acc S3 hq hz
          obtain ⟨b6, l, hb6, rfl, lq, hs, rfl⟩ := (hL _ _ _).mp hz
          refine ⟨.int (0 + (q : Nat)), _, by show some ((rangeD 0 z.toNat)[q]?) = _; rw [rd_get hq], rfl, ?_⟩
          simp
          refine dp (set_get g1) hb6 (by omega) far0 far1 fun p b7 hp hb7 => ?_
          rw [List.set_set]
          refine ⟨by unfold sizeLine; omega, (hL _ _ _).mpr ⟨b7, l ++ [p], hb7.le (by push_cast; omega), by simp, by simp [lq], fun r hr => ?_, rfl⟩⟩
          rcases List.mem_append.mp hr with hr | hr
          · exact hs r hr
          · rw [List.mem_singleton.mp hr]; exact hp
        · intro acc S3 hz
          obtain ⟨b6, l, hb6, rfl, lq, hs, rfl⟩ := (hL _ _ _).mp hz
          refine ⟨by show some ((rangeD 0 z.toNat)[z.toNat]?) = _; rw [List.getElem?_eq_none (by rw [rangeD_len]; omega)], ?_⟩
          refine (hP5 _ _).mpr ⟨b6, l, z, mo, wi, far, x, y, w3, hb6.le (by omega), tw, far0, far1, z0, z1, lq, hs, rfl, ?_⟩
          simp
      intro ρ S2 hz
      clear z0 z1 sz hb5 b5 far0 far1 tw mo0 mo1 wi0 wi1
      clear z w3 mo wi x y far
      obtain ⟨b6, l, z, mo, wi, far, x, y, w3, hb6, tw, far0, far1, z0, z1, lz, hs, rfl, rfl⟩ := (hP5 _ _).mp hz
      clear hz hP5 P5
      have lne : l ≠ [] := fun e => by
        subst e
        simp at lz
        omega
      have gl : (S1.set n b6 ++ [SO.lst (l.map encPt)])[S1.length]? = some (.lst (l.map encPt)) := by
        rw [List.getElem?_append_right (by simp)]
        simp
      have hxM : lstM (S1.set n b6 ++ [SO.lst (l.map encPt)]) (.loc S1.length) = some (l.map encPt) := lstM_at gl
      refine s_seq (fun ρ S2 => S2 = S1.set n b6 ++ [.lst (l.map encPt)] ∧ ρ = [some (.loc 0), some (.int (i : Nat)), some (.loc n), w3, some (.int mo), some (.int wi), some (encC x y), some (.int far), some (.int z), some (.loc S1.length), v10, v11]) ?_ ?_
      · generalize S1.set n b6 ++ [SO.lst (l.map encPt)] = T at *
        simp
        refine db tw hxM lne (by omega) hs ?_
        simp
      rintro ρ S2 ⟨rfl, rfl⟩
      refine s_seq P6 ?_ ?_
      · rw [s_fz]
        simp [d2]
        have g3 : (S1.set n b6 ++ [SO.lst (l.map encPt)])[n]? = some b6 := by
          rw [List.getElem?_append_left (by simpa using ltn)]
          exact set_get g1
        refine dp g3 hb6 (by omega) far0 far1 fun p b7 hp hb7 => ?_
        have e7 : (S1.set n b6 ++ [SO.lst (l.map encPt)]).set n b7 = S1.set n b7 ++ [SO.lst (l.map encPt)] := by
          rw [List.set_append_left _ _ (by simpa using ltn), List.set_set]
        rw [e7]
        have zd : z / 2 = ((z.toNat / 2 : Nat) : Int) := by omega
        have hA : (S1.set n b7 ++ [SO.lst (l.map encPt), .lst [encPt p]])[S1.length]? = some (.lst (l.map encPt)) := by
          rw [List.getElem?_append_right (by simp)]
          simp
        have hB : (S1.set n b7 ++ [SO.lst (l.map encPt), .lst [encPt p]])[S1.length + 1]? = some (.lst [encPt p]) := by
          rw [List.getElem?_append_right (by simp)]
          simp
        have sA := setSl_at (j := z.toNat / 2) hA hB (by omega) (by rw [List.length_map]; unfold sizeLine; simp; omega)
        have eS : (S1.set n b7 ++ [SO.lst (l.map encPt), .lst [encPt p]]).set S1.length (.lst ((l.map encPt).take (z.toNat / 2) ++ [encPt p])) = S1.set n b7 ++ [SO.lst ((l.take (z.toNat / 2) ++ [p]).map encPt), .lst [encPt p]] := by
          rw [List.set_append_right _ _ (by simp)]
          simp [List.map_take]
        simp
        rw [zd, sA]
        simp only
        rw [eS]
        have hF : (S1.set n b7 ++ [SO.lst ((l.take (z.toNat / 2) ++ [p]).map encPt), .lst [encPt p]])[S1.length]? = some (.lst ((l.take (z.toNat / 2) ++ [p]).map encPt)) := by
          rw [List.getElem?_append_right (by simp)]
          simp
        have lw : n < (S1.set n b6 ++ [SO.lst (l.map encPt)]).length := by simp; omega
        have l0 : 0 < (S1.set n b6 ++ [SO.lst (l.map encPt)]).length := by simp
        show Ws (fzE 9 _ _ _) _
        rw [fz_at (m := S1.length) rfl hF]
        refine (hP6 _ _).mpr ⟨b7, l.take (z.toNat / 2) ++ [p], z, mo, wi, far, x, y, w3, hb7.le (by omega), tw, by simp, ?_, ?_, ?_, ?_, rfl⟩
        · rw [List.length_append, List.length_take]
          simp
          omega
        · intro r hr
          rcases List.mem_append.mp hr with hr | hr
          · exact hs r (List.mem_of_mem_take hr)
          · rw [List.mem_singleton.mp hr]; exact hp
        · rw [cut_get lw, List.getElem?_set_ne (by omega), List.getElem?_append_left (by simpa using ltn)]
          exact set_get g1
        · rw [cut_get l0, List.getElem?_set_ne (by omega), List.getElem?_append_left (by simp; omega)]
          exact k0 _
      intro ρ S2 hz
      obtain ⟨b7, l2, z', mo', wi', far', x', y', w3', hb7, tw', l2n, l2l, hs2, g7, g8, rfl⟩ := (hP6 _ _).mp hz
      simp
      refine db tw' rfl l2n l2l hs2 ?_
      simp
      exact (hJ _ _ _).mpr ⟨b7, _, _, _, _, _, _, _, _, _, g7, g8, hb7.le (by push_cast; omega), rfl⟩
    · intro ρ S1 hz
      obtain ⟨b2, v3, v4, v5, v6, v7, v8, v9, v10, v11, g1, g2, hb2, rfl⟩ := (hJ _ _ _).mp hz
      exact (hI _ _ _).mpr ⟨_, _, _, _, _, _, _, _, _, _, _, rfl, g2⟩
  intro ρ S1 hz
  obtain ⟨u1, u2, u3, u4, u5, u6, u7, u8, u9, u10, u11, rfl, g0⟩ := (hI _ _ _).mp hz
  refine de fun T => ?_
  simp
end CC
namespace CC
open PySem PySem.Spec PyProof.Rows L2
abbrev nm_is_integer : List Str := ["value", "low"]
abbrev nm_is_run : List Str := ["value", "directions"]
abbrev nm_are_runs : List Str := ["value", "directions", "one", "other", "run"]
abbrev nm_is_city : List Str := ["value"]
abbrev nm_read_number : List Str := ["word", "sign"]
abbrev nm_read_run : List Str := ["word", "count"]
abbrev nm_read_point : List Str := ["word", "numbers", "part"]
abbrev nm_is_path : List Str := ["value", "point", "number"]
abbrev nm_format_runs : List Str := ["runs", "direction", "count"]
abbrev nm_format_city : List Str := ["city"]
abbrev nm_format_drive : List Str := ["drive", "x", "y"]
abbrev nm_parse_city : List Str := ["text", "found", "part", "word"]
abbrev nm_parse_drive : List Str := ["text", "found", "word"]
abbrev nm__law_source : List Str := ["_law_script", "_law_k", "_law_cell"]
abbrev nm__law_draw : List Str := ["_law_source_here", "_law_bound", "_law_found", "_law_mixed"]
abbrev nm__law_runs : List Str := ["_law_source_here", "_law_pair", "_law_most", "_law_wide", "_law_at", "_law_found", "_law_k", "_law_count"]
abbrev nm__law_town : List Str := ["_law_source_here", "_law_most", "_law_wide"]
abbrev nm__law_note : List Str := ["_law_town_here", "_law_note_here", "_law_axis", "_law_sign", "_law_many"]
abbrev nm__law_line : List Str := ["_law_points", "_law_line_here", "_law_x", "_law_y"]
abbrev nm__law_both_ways : List Str := ["_law_town_here", "_law_points", "_law_note_here", "_law_line_here", "_law_before", "_law_turn", "_law_found"]
abbrev nm__law_point : List Str := ["_law_source_here", "_law_far", "_law_x"]
abbrev nm__law_long_right : List Str := ["_law_rows", "_law_columns", "_law_note_here", "_law_found", "_law_points", "_law_line_here", "_law_k"]
abbrev nm_law : List Str := ["_law_script", "_law_k", "_law_source_here", "_law_turn", "_law_most", "_law_wide", "_law_town_here", "_law_far", "_law_size", "_law_points", "_law_huge", "_law_step"]
theorem sc_is_integer : FnScope nm_is_integer ["value", "low"] (defScope s_is_integer) := ⟨rfl, rfl, rfl, by decide +kernel, rfl, by decide +kernel, by decide +kernel⟩
theorem sc_is_run : FnScope nm_is_run ["value", "directions"] (defScope s_is_run) := ⟨rfl, rfl, rfl, by decide +kernel, rfl, by decide +kernel, by decide +kernel⟩
theorem sc_are_runs : FnScope nm_are_runs ["value", "directions"] (defScope s_are_runs) := ⟨rfl, rfl, rfl, by decide +kernel, rfl, by decide +kernel, by decide +kernel⟩
theorem sc_is_city : FnScope nm_is_city ["value"] (defScope s_is_city) := ⟨rfl, rfl, rfl, by decide +kernel, rfl, by decide +kernel, by decide +kernel⟩
theorem sc_read_number : FnScope nm_read_number ["word"] (defScope s_read_number) := ⟨rfl, rfl, rfl, by decide +kernel, rfl, by decide +kernel, by decide +kernel⟩
theorem sc_read_run : FnScope nm_read_run ["word"] (defScope s_read_run) := ⟨rfl, rfl, rfl, by decide +kernel, rfl, by decide +kernel, by decide +kernel⟩
theorem sc_read_point : FnScope nm_read_point ["word"] (defScope s_read_point) := ⟨rfl, rfl, rfl, by decide +kernel, rfl, by decide +kernel, by decide +kernel⟩
theorem sc_is_path : FnScope nm_is_path ["value"] (defScope s_is_path) := ⟨rfl, rfl, rfl, by decide +kernel, rfl, by decide +kernel, by decide +kernel⟩
theorem sc_format_runs : FnScope nm_format_runs ["runs"] (defScope s_format_runs) := ⟨rfl, rfl, rfl, by decide +kernel, rfl, by decide +kernel, by decide +kernel⟩
theorem sc_format_city : FnScope nm_format_city ["city"] (defScope s_format_city) := ⟨rfl, rfl, rfl, by decide +kernel, rfl, by decide +kernel, by decide +kernel⟩
theorem sc_format_drive : FnScope nm_format_drive ["drive"] (defScope s_format_drive) := ⟨rfl, rfl, rfl, by decide +kernel, rfl, by decide +kernel, by decide +kernel⟩
theorem sc_parse_city : FnScope nm_parse_city ["text"] (defScope s_parse_city) := ⟨rfl, rfl, rfl, by decide +kernel, rfl, by decide +kernel, by decide +kernel⟩
theorem sc_parse_drive : FnScope nm_parse_drive ["text"] (defScope s_parse_drive) := ⟨rfl, rfl, rfl, by decide +kernel, rfl, by decide +kernel, by decide +kernel⟩
theorem sc__law_source : FnScope nm__law_source ["_law_script", "_law_k"] (defScope s__law_source) := ⟨rfl, rfl, rfl, by decide +kernel, rfl, by decide +kernel, by decide +kernel⟩
theorem sc__law_draw : FnScope nm__law_draw ["_law_source_here", "_law_bound"] (defScope s__law_draw) := ⟨rfl, rfl, rfl, by decide +kernel, rfl, by decide +kernel, by decide +kernel⟩
theorem sc__law_runs : FnScope nm__law_runs ["_law_source_here", "_law_pair", "_law_most", "_law_wide"] (defScope s__law_runs) := ⟨rfl, rfl, rfl, by decide +kernel, rfl, by decide +kernel, by decide +kernel⟩
theorem sc__law_town : FnScope nm__law_town ["_law_source_here", "_law_most", "_law_wide"] (defScope s__law_town) := ⟨rfl, rfl, rfl, by decide +kernel, rfl, by decide +kernel, by decide +kernel⟩
theorem sc__law_note : FnScope nm__law_note ["_law_town_here"] (defScope s__law_note) := ⟨rfl, rfl, rfl, by decide +kernel, rfl, by decide +kernel, by decide +kernel⟩
theorem sc__law_line : FnScope nm__law_line ["_law_points"] (defScope s__law_line) := ⟨rfl, rfl, rfl, by decide +kernel, rfl, by decide +kernel, by decide +kernel⟩
theorem sc__law_both_ways : FnScope nm__law_both_ways ["_law_town_here", "_law_points"] (defScope s__law_both_ways) := ⟨rfl, rfl, rfl, by decide +kernel, rfl, by decide +kernel, by decide +kernel⟩
theorem sc__law_point : FnScope nm__law_point ["_law_source_here", "_law_far"] (defScope s__law_point) := ⟨rfl, rfl, rfl, by decide +kernel, rfl, by decide +kernel, by decide +kernel⟩
theorem sc__law_long_right : FnScope nm__law_long_right [] (defScope s__law_long_right) := ⟨rfl, rfl, rfl, by decide +kernel, rfl, by decide +kernel, by decide +kernel⟩
theorem sc_law : FnScope nm_law ["_law_script"] (defScope s_law) := ⟨rfl, rfl, rfl, by decide +kernel, rfl, by decide +kernel, by decide +kernel⟩
def kwl : List (List (Nat × List Str × List Nat)) := [[], [], [], [], [], [], [], [], [], [(0, [("city" : Str)], [0])], [(0, [("drive" : Str)], [0])], [(0, [("text" : Str)], [0])], [(0, [("text" : Str)], [0])], [], [], [], [], [], [], [], [], [(0, [], [])], []]
def kwt : Nat → List (Nat × List Str × List Nat) := fun i => kwl.getD i []
structure Txt (K : PySem.W.Frag) (mg : Str → Option Value) (w : World) : Prop where
  nob : NoB mg
  gok : GOk ⟨K, w, none⟩ mg gns G
  t_is_integer : FnTxt K mg "is_integer" s_is_integer ["value", "low"] (kwt 0)
  t_is_run : FnTxt K mg "is_run" s_is_run ["value", "directions"] (kwt 1)
  t_are_runs : FnTxt K mg "are_runs" s_are_runs ["value", "directions"] (kwt 2)
  t_is_city : FnTxt K mg "is_city" s_is_city ["value"] (kwt 3)
  t_read_number : FnTxt K mg "read_number" s_read_number ["word"] (kwt 4)
  t_read_run : FnTxt K mg "read_run" s_read_run ["word"] (kwt 5)
  t_read_point : FnTxt K mg "read_point" s_read_point ["word"] (kwt 6)
  t_is_path : FnTxt K mg "is_path" s_is_path ["value"] (kwt 7)
  t_format_runs : FnTxt K mg "format_runs" s_format_runs ["runs"] (kwt 8)
  t_format_city : FnTxt K mg "format_city" s_format_city ["city"] (kwt 9)
  t_format_drive : FnTxt K mg "format_drive" s_format_drive ["drive"] (kwt 10)
  t_parse_city : FnTxt K mg "parse_city" s_parse_city ["text"] (kwt 11)
  t_parse_drive : FnTxt K mg "parse_drive" s_parse_drive ["text"] (kwt 12)
  t__law_source : FnTxt K mg "_law_source" s__law_source ["_law_script", "_law_k"] (kwt 13)
  t__law_draw : FnTxt K mg "_law_draw" s__law_draw ["_law_source_here", "_law_bound"] (kwt 14)
  t__law_runs : FnTxt K mg "_law_runs" s__law_runs ["_law_source_here", "_law_pair", "_law_most", "_law_wide"] (kwt 15)
  t__law_town : FnTxt K mg "_law_town" s__law_town ["_law_source_here", "_law_most", "_law_wide"] (kwt 16)
  t__law_note : FnTxt K mg "_law_note" s__law_note ["_law_town_here"] (kwt 17)
  t__law_line : FnTxt K mg "_law_line" s__law_line ["_law_points"] (kwt 18)
  t__law_both_ways : FnTxt K mg "_law_both_ways" s__law_both_ways ["_law_town_here", "_law_points"] (kwt 19)
  t__law_point : FnTxt K mg "_law_point" s__law_point ["_law_source_here", "_law_far"] (kwt 20)
  t__law_long_right : FnTxt K mg "_law_long_right" s__law_long_right [] (kwt 21)
  t_law : FnTxt K mg "law" s_law ["_law_script"] (kwt 22)
  x_CityError : ExTxt K mg "CityError"
  x_InvalidCity : ExTxt K mg "InvalidCity"
  x_InvalidDrive : ExTxt K mg "InvalidDrive"
  x_InvalidText : ExTxt K mg "InvalidText"
  dig : NoDig K
section
variable {P : Program} {w : World} {K : PySem.W.Frag} {mg : Str → Option Value} {base : Heap} {k : Nat} {C : CallSem}
theorem at_is_integer (tx : Txt K mg w) (cc : Calls P w K mg base k nms kwt T C) : FnAt P w K mg base (k + 1) "is_integer" 2 (kwt 0) (fun ds S => if ds.length = 2 then trim S (endR (run W C G bd_is_integer (startE 2 ds) S)) else .bad) := by
  obtain ⟨f, fdd, hm, ⟨_, F⟩, hb, hkb⟩ := tx.t_is_integer.ex
  refine def_ok (fd := fd_is_integer) (i := f_is_integer) (T := T) (C := C) (G := G) (n := W) tx.nob F sc_is_integer rfl rfl rfl hm hb hkb ?_
  intro cdv A outer s H E cx room tk ow
  have gok := fun y => GOk.kw (y := y) tx.gok
  exact (dss_cons (ds_ret (de_and (de_biB cx m_isinstance bi_isinst (by rfl) b_isinstance (da_cons (de_var (pv 0)) (da_cons (de_ty cx m_int (by rfl) b_int)
  da_nil))) (de_and (de_nt (de_biB cx m_isinstance bi_isinst (by rfl) b_isinstance (da_cons (de_var (pv 0)) (da_cons (de_ty cx m_bool (by rfl) b_bool)
  da_nil)))) (pe_one (de_cmp cx (de_var (pv 0)) (de_var (pv 1)))))))
  dss_nil)
theorem at_is_run (tx : Txt K mg w) (cc : Calls P w K mg base k nms kwt T C) : FnAt P w K mg base (k + 1) "is_run" 2 (kwt 1) (fun ds S => if ds.length = 2 then trim S (endR (run W C G bd_is_run (startE 2 ds) S)) else .bad) := by
  obtain ⟨f, fdd, hm, ⟨_, F⟩, hb, hkb⟩ := tx.t_is_run.ex
  refine def_ok (fd := fd_is_run) (i := f_is_run) (T := T) (C := C) (G := G) (n := W) tx.nob F sc_is_run rfl rfl rfl hm hb hkb ?_
  intro cdv A outer s H E cx room tk ow
  have gok := fun y => GOk.kw (y := y) tx.gok
  exact (dss_cons (ds_if (dw_or (dt_nt (dt_tru (de_biB cx m_isinstance bi_isinst (by rfl) b_isinstance (da_cons (de_var (pv 0)) (da_cons (de_ty cx m_tuple
  (by rfl) b_tuple) da_nil))))) (dw_one_or (dt_cmp cx (de_biB cx m_len bi_len (by rfl) b_len (da_cons (de_var (pv 0)) da_nil)) de_int))).pt (dss_cons (ds_ret
  de_bl)
  dss_nil) dss_nil)
  (dss_cons (ds_ret (de_and (de_biB cx m_isinstance bi_isinst (by rfl) b_isinstance (da_cons (de_ix cx (de_var (pv 0)) de_int)
  (da_cons (de_ty cx m_str (by rfl) b_str) da_nil))) (de_and (de_cmp cx (de_ix cx (de_var (pv 0)) de_int) (de_var (pv 1))) (pe_one (de_call cc (i := 0)
  (by rfl) (by rfl) cx room tk (by rfl) (da_cons (de_ix cx (de_var (pv 0)) de_int) (da_cons de_int da_nil)))))))
  dss_nil))
theorem at_are_runs (tx : Txt K mg w) (cc : Calls P w K mg base k nms kwt T C) : FnAt P w K mg base (k + 1) "are_runs" 2 (kwt 2) (fun ds S => if ds.length = 2 then trim S (endR (run W C G bd_are_runs (startE 5 ds) S)) else .bad) := by
  obtain ⟨f, fdd, hm, ⟨_, F⟩, hb, hkb⟩ := tx.t_are_runs.ex
  refine def_ok (fd := fd_are_runs) (i := f_are_runs) (T := T) (C := C) (G := G) (n := W) tx.nob F sc_are_runs rfl rfl rfl hm hb hkb ?_
  intro cdv A outer s H E cx room tk ow
  have gok := fun y => GOk.kw (y := y) tx.gok
  exact (dss_cons (ds_if (dw_or (dt_nt (dt_tru (de_biB cx m_isinstance bi_isinst (by rfl) b_isinstance (da_cons (de_var (pv 0)) (da_cons (de_ty cx m_tuple
  (by rfl) b_tuple) da_nil))))) (dw_or (dt_cmp cx (de_biB cx m_len bi_len (by rfl) b_len (da_cons (de_var (pv 0)) da_nil)) de_int) (dw_one_or (dt_nt (dt_tru
  (de_biB cx m_all (bi_all (cx.calm rfl)) (by rfl) b_all (da_cons (de_frzv (de_lc (own := [("run", 4)]) cx (di_itr (de_var (pv 0))) (blkOk_by (own := [("run",
  4)]) (N := nm_are_runs) (sc := defScope s_are_runs) (by decide +kernel)) (fun _ _ _ _ _ => (dg_name (pg_name (i := 4) (cx.blk _ _ _ _ _).nd rfl (.inl rfl))))
  (fun _ _ _ _ _ => dts_nil) (fun _ _ _ _ _ => (de_call cc (i := 1) (by rfl) (by rfl) (cx.blk _ _ _ _ _) room takes0 (by rfl) (da_cons (de_var (pv 4)) (da_cons
  (de_var (pv 1)) da_nil)))) (by decide))) da_nil))))))).pt (dss_cons (ds_ret de_bl)
  dss_nil) dss_nil)
  (dss_cons (ds_ret (de_biB cx m_all (bi_all (cx.calm
  rfl)) (by rfl) b_all (da_cons (de_frzv (de_lc (own := [("one", 2), ("other", 3)]) cx (di_zip2 cx (by rfl) (de_var (pv 0)) (de_frzv (de_sl (de_var (pv 0))
  (dp_some de_int) dp_none))) (blkOk_by (own := [("one", 2), ("other", 3)]) (N := nm_are_runs) (sc := defScope s_are_runs) (by decide +kernel)) (fun _ _ _ _ _
  => (dg_tup ((cx.blk _ _ _ _ _).calm rfl) (dgs_cons (dg_name (pg_name (i := 2) (cx.blk _ _ _ _ _).nd rfl (.inl rfl))) (dgs_cons (dg_name (pg_name (i := 3)
  (cx.blk _ _ _ _ _).nd rfl (.inl rfl))) dgs_nil)))) (fun _ _ _ _ _ => dts_nil) (fun _ _ _ _ _ => (de_cmp (cx.blk _ _ _ _ _) (de_ix (cx.blk _ _ _ _ _) (de_var
  (pv 2)) de_int) (de_ix (cx.blk _ _ _ _ _) (de_var (pv 3)) de_int))) (by decide))) da_nil)))
  dss_nil))
theorem at_is_city (tx : Txt K mg w) (cc : Calls P w K mg base k nms kwt T C) : FnAt P w K mg base (k + 1) "is_city" 1 (kwt 3) (fun ds S => if ds.length = 1 then trim S (endR (run W C G bd_is_city (startE 1 ds) S)) else .bad) := by
  obtain ⟨f, fdd, hm, ⟨_, F⟩, hb, hkb⟩ := tx.t_is_city.ex
  refine def_ok (fd := fd_is_city) (i := f_is_city) (T := T) (C := C) (G := G) (n := W) tx.nob F sc_is_city rfl rfl rfl hm hb hkb ?_
  intro cdv A outer s H E cx room tk ow
  have gok := fun y => GOk.kw (y := y) tx.gok
  exact (dss_cons (ds_if (dw_or (dt_nt (dt_tru (de_biB cx m_isinstance bi_isinst (by rfl) b_isinstance (da_cons (de_var (pv 0)) (da_cons (de_ty cx m_tuple
  (by rfl) b_tuple) da_nil))))) (dw_one_or (dt_cmp cx (de_biB cx m_len bi_len (by rfl) b_len (da_cons (de_var (pv 0)) da_nil)) de_int))).pt (dss_cons (ds_ret
  de_bl)
  dss_nil) dss_nil)
  (dss_cons (ds_ret (de_and (de_call cc (i := 2) (by rfl) (by rfl) cx room tk (by rfl) (da_cons (de_ix cx (de_var (pv 0)) de_int)
  (da_cons (de_tup (da_cons (de_glo (gok _) (i := 0) rfl (by rfl)) (da_cons (de_glo (gok _) (i := 1) rfl (by rfl)) da_nil))) da_nil))) (pe_one (de_call cc (i
  := 2) (by rfl) (by rfl) cx room tk (by rfl) (da_cons (de_ix cx (de_var (pv 0)) de_int) (da_cons (de_tup (da_cons (de_glo (gok _) (i := 2) rfl (by rfl))
  (da_cons (de_glo (gok _) (i := 3) rfl (by rfl)) da_nil))) da_nil))))))
  dss_nil))
theorem at_read_number (tx : Txt K mg w) (cc : Calls P w K mg base k nms kwt T C) : FnAt P w K mg base (k + 1) "read_number" 1 (kwt 4) (fun ds S => if ds.length = 1 then trim S (endR (run W C G bd_read_number (startE 2 ds) S)) else .bad) := by
  obtain ⟨f, fdd, hm, ⟨_, F⟩, hb, hkb⟩ := tx.t_read_number.ex
  refine def_ok (fd := fd_read_number) (i := f_read_number) (T := T) (C := C) (G := G) (n := W) tx.nob F sc_read_number rfl rfl rfl hm hb hkb ?_
  intro cdv A outer s H E cx room tk ow
  have gok := fun y => GOk.kw (y := y) tx.gok
  exact (dss_cons (ds_if (dw_or (dt_cmp cx (de_var (pv 0)) de_str) (dw_one_or (dt_nt (dt_tru (de_biB cx m_all (bi_all (cx.calm rfl)) (by rfl) b_all (da_cons
  (de_frzv (de_lc (own := [("sign", 1)]) cx (di_itr (de_var (pv 0))) (blkOk_by (own := [("sign", 1)]) (N := nm_read_number) (sc := defScope s_read_number)
  (by decide +kernel)) (fun _ _ _ _ _ => (dg_name (pg_name (i := 1) (cx.blk _ _ _ _ _).nd rfl (.inl rfl)))) (fun _ _ _ _ _ => dts_nil) (fun _ _ _ _ _ =>
  (de_cmp (cx.blk _ _ _ _ _) (de_var (pv 1)) (de_glo (gok _) (i := 7) rfl (by rfl)))) (by decide))) da_nil)))))).pt (dss_cons (ds_ret de_non)
  dss_nil)
  dss_nil)
  (dss_cons (ds_ret (de_ife (dw_or (dt_cmp cx (de_ix cx (de_var (pv 0)) de_int) de_str) (dw_one_or (dt_cmp cx (de_var (pv 0)) de_str))).pt (de_prT
  cx m_int (bi_intL tx.dig) (by rfl) b_int (da_cons (de_var (pv 0)) da_nil)) de_non))
  dss_nil))
theorem at_read_run (tx : Txt K mg w) (cc : Calls P w K mg base k nms kwt T C) : FnAt P w K mg base (k + 1) "read_run" 1 (kwt 5) (fun ds S => if ds.length = 1 then trim S (endR (run W C G bd_read_run (startE 2 ds) S)) else .bad) := by
  obtain ⟨f, fdd, hm, ⟨_, F⟩, hb, hkb⟩ := tx.t_read_run.ex
  refine def_ok (fd := fd_read_run) (i := f_read_run) (T := T) (C := C) (G := G) (n := W) tx.nob F sc_read_run rfl rfl rfl hm hb hkb ?_
  intro cdv A outer s H E cx room tk ow
  have gok := fun y => GOk.kw (y := y) tx.gok
  exact (dss_cons (ds_asg (de_call cc (i := 4) (by rfl) (by rfl) cx room tk (by rfl) (da_cons (de_frzv (de_sl (de_var (pv 0)) (dp_some de_int) dp_none))
  da_nil)) (dgu_bind (dg_name (pg_name (i := 1) cx.nd rfl (.inl rfl)))))
  (dss_cons (ds_ret (de_ife (dt_cmp cx (de_var (pv 1)) de_non) de_non (de_tup (da_cons
  (de_ix cx (de_var (pv 0)) de_int) (da_cons (de_var (pv 1)) da_nil)))))
  dss_nil))
theorem at_read_point (tx : Txt K mg w) (cc : Calls P w K mg base k nms kwt T C) : FnAt P w K mg base (k + 1) "read_point" 1 (kwt 6) (fun ds S => if ds.length = 1 then trim S (endR (run W C G bd_read_point (startE 3 ds) S)) else .bad) := by
  obtain ⟨f, fdd, hm, ⟨_, F⟩, hb, hkb⟩ := tx.t_read_point.ex
  refine def_ok (fd := fd_read_point) (i := f_read_point) (T := T) (C := C) (G := G) (n := W) tx.nob F sc_read_point rfl rfl rfl hm hb hkb ?_
  intro cdv A outer s H E cx room tk ow
  have gok := fun y => GOk.kw (y := y) tx.gok
  exact (dss_cons (ds_fz (i := 1) (ds_setLc (i := 1) (own := [("part", 2)]) cx rfl rfl (sw_true rfl rfl rfl (by decide +kernel)) (di_itr (de_split (de_var (pv
  0)) (de_glo (gok _) (i := 6) rfl (by rfl)))) (blkOk_by (own := [("part", 2)]) (N := nm_read_point) (sc := defScope s_read_point) (by decide +kernel)) (fun _
  _ _ _ _ => (dg_name (pg_name (i := 2) (cx.blk _ _ _ _ _).nd rfl (.inl rfl)))) (fun _ _ _ _ _ => dts_nil) (fun _ _ _ _ _ => (de_call cc (i := 4) (by rfl)
  (by rfl) (cx.blk _ _ _ _ _) room takes0 (by rfl) (da_cons (de_var (pv 2)) da_nil))) (by decide)))
  (dss_cons (ds_ret (de_ife (dw_and (dt_cmp cx (de_biB cx
  m_len bi_len (by rfl) b_len (da_cons (de_var (pv 1)) da_nil)) de_int) (dw_one_and (dt_cmp cx de_non (de_var (pv 1))))).pt (de_biT cx m_tuple bi_tuple
  (by rfl) b_tuple (da_cons (de_var (pv 1)) da_nil)) de_non))
  dss_nil))
theorem at_is_path (tx : Txt K mg w) (cc : Calls P w K mg base k nms kwt T C) : FnAt P w K mg base (k + 1) "is_path" 1 (kwt 7) (fun ds S => if ds.length = 1 then trim S (endR (run W C G bd_is_path (startE 3 ds) S)) else .bad) := by
  obtain ⟨f, fdd, hm, ⟨_, F⟩, hb, hkb⟩ := tx.t_is_path.ex
  refine def_ok (fd := fd_is_path) (i := f_is_path) (T := T) (C := C) (G := G) (n := W) tx.nob F sc_is_path rfl rfl rfl hm hb hkb ?_
  intro cdv A outer s H E cx room tk ow
  have gok := fun y => GOk.kw (y := y) tx.gok
  exact (dss_cons (ds_if (dw_or (dt_nt (dt_tru (de_biB cx m_isinstance bi_isinst (by rfl) b_isinstance (da_cons (de_var (pv 0)) (da_cons (de_ty cx m_list
  (by rfl) b_list) da_nil))))) (dw_one_or (dt_cmp cx (de_var (pv 0)) (de_frzv (de_lst da_nil))))).pt (dss_cons (ds_ret de_bl)
  dss_nil) dss_nil)
  (dss_cons
  (ds_for ow (cx.calm rfl) (di_itr (de_var (pv 0))) (dg_name (pg_name (i := 1) cx.nd rfl (.inl rfl))) (dss_cons (ds_if (dw_or (dt_nt (dt_tru (de_biB cx
  m_isinstance bi_isinst (by rfl) b_isinstance (da_cons (de_var (pv 1)) (da_cons (de_ty cx m_tuple (by rfl) b_tuple) da_nil))))) (dw_or (dt_cmp cx (de_biB cx
  m_len bi_len (by rfl) b_len (da_cons (de_var (pv 1)) da_nil)) de_int) (dw_one_or (dt_nt (dt_tru (de_biB cx m_all (bi_all (cx.calm rfl)) (by rfl) b_all
  (da_cons (de_frzv (de_lc (own := [("number", 2)]) cx (di_itr (de_var (pv 1))) (blkOk_by (own := [("number", 2)]) (N := nm_is_path) (sc := defScope s_is_path)
  (by decide +kernel)) (fun _ _ _ _ _ => (dg_name (pg_name (i := 2) (cx.blk _ _ _ _ _).nd rfl (.inl rfl)))) (fun _ _ _ _ _ => dts_nil) (fun _ _ _ _ _ =>
  (de_call cc (i := 0) (by rfl) (by rfl) (cx.blk _ _ _ _ _) room takes0 (by rfl) (da_cons (de_var (pv 2)) (da_cons de_int da_nil)))) (by decide)))
  da_nil))))))).pt (dss_cons (ds_ret de_bl)
  dss_nil) dss_nil)
  dss_nil))
  (dss_cons (ds_ret de_bl)
  dss_nil)))
theorem at_format_runs (tx : Txt K mg w) (cc : Calls P w K mg base k nms kwt T C) : FnAt P w K mg base (k + 1) "format_runs" 1 (kwt 8) (fun ds S => if ds.length = 1 then trim S (endR (run W C G bd_format_runs (startE 3 ds) S)) else .bad) := by
  obtain ⟨f, fdd, hm, ⟨_, F⟩, hb, hkb⟩ := tx.t_format_runs.ex
  refine def_ok (fd := fd_format_runs) (i := f_format_runs) (T := T) (C := C) (G := G) (n := W) tx.nob F sc_format_runs rfl rfl rfl hm hb hkb ?_
  intro cdv A outer s H E cx room tk ow
  have gok := fun y => GOk.kw (y := y) tx.gok
  exact (dss_cons (ds_ret (de_join (de_glo (gok _) (i := 4) rfl (by rfl)) (de_frzv (de_lc (own := [("direction", 1), ("count", 2)]) cx (di_itr (de_var (pv 0)))
  (blkOk_by (own := [("direction", 1), ("count", 2)]) (N := nm_format_runs) (sc := defScope s_format_runs) (by decide +kernel)) (fun _ _ _ _ _ => (dg_tup
  ((cx.blk _ _ _ _ _).calm rfl) (dgs_cons (dg_name (pg_name (i := 1) (cx.blk _ _ _ _ _).nd rfl (.inl rfl))) (dgs_cons (dg_name (pg_name (i := 2) (cx.blk _ _ _
  _ _).nd rfl (.inl rfl))) dgs_nil)))) (fun _ _ _ _ _ => dts_nil) (fun _ _ _ _ _ => (de_bin (de_var (pv 1)) (de_biT (cx.blk _ _ _ _ _) m_str bi_str (by rfl)
  b_str (da_cons (de_var (pv 2)) da_nil)))) (by decide)))))
  dss_nil)
theorem at_format_city (tx : Txt K mg w) (cc : Calls P w K mg base k nms kwt T C) : FnAt P w K mg base (k + 1) "format_city" 1 (kwt 9) (fun ds S => if ds.length = 1 then trim S (endR (run W C G bd_format_city (startE 1 ds) S)) else .bad) := by
  obtain ⟨f, fdd, hm, ⟨_, F⟩, hb, hkb⟩ := tx.t_format_city.ex
  refine def_ok (fd := fd_format_city) (i := f_format_city) (T := T) (C := C) (G := G) (n := W) tx.nob F sc_format_city rfl rfl rfl hm hb hkb ?_
  intro cdv A outer s H E cx room tk ow
  have gok := fun y => GOk.kw (y := y) tx.gok
  exact (dss_cons (ds_if (dt_nt (dt_tru (de_call cc (i := 3) (by rfl) (by rfl) cx room tk (by rfl) (da_cons (de_var (pv 0)) da_nil)))) (dss_cons (ds_raise0 (c
  := 1) (by rfl) tx.x_InvalidCity cx tk (by rfl))
  dss_nil) dss_nil)
  (dss_cons (ds_ret (de_bin (de_bin (de_call cc (i := 8) (by rfl) (by rfl) cx room tk
  (by rfl) (da_cons (de_ix cx (de_var (pv 0)) de_int) da_nil)) (de_glo (gok _) (i := 5) rfl (by rfl))) (de_call cc (i := 8) (by rfl) (by rfl) cx room tk
  (by rfl) (da_cons (de_ix cx (de_var (pv 0)) de_int) da_nil))))
  dss_nil))
theorem at_format_drive (tx : Txt K mg w) (cc : Calls P w K mg base k nms kwt T C) : FnAt P w K mg base (k + 1) "format_drive" 1 (kwt 10) (fun ds S => if ds.length = 1 then trim S (endR (run W C G bd_format_drive (startE 3 ds) S)) else .bad) := by
  obtain ⟨f, fdd, hm, ⟨_, F⟩, hb, hkb⟩ := tx.t_format_drive.ex
  refine def_ok (fd := fd_format_drive) (i := f_format_drive) (T := T) (C := C) (G := G) (n := W) tx.nob F sc_format_drive rfl rfl rfl hm hb hkb ?_
  intro cdv A outer s H E cx room tk ow
  have gok := fun y => GOk.kw (y := y) tx.gok
  exact (dss_cons (ds_if (dt_nt (dt_tru (de_call cc (i := 7) (by rfl) (by rfl) cx room tk (by rfl) (da_cons (de_var (pv 0)) da_nil)))) (dss_cons (ds_raise0 (c
  := 5) (by rfl) tx.x_InvalidDrive cx tk (by rfl))
  dss_nil) dss_nil)
  (dss_cons (ds_ret (de_join (de_glo (gok _) (i := 4) rfl (by rfl)) (de_frzv (de_lc (own
  := [("x", 1), ("y", 2)]) cx (di_itr (de_var (pv 0))) (blkOk_by (own := [("x", 1), ("y", 2)]) (N := nm_format_drive) (sc := defScope s_format_drive)
  (by decide +kernel)) (fun _ _ _ _ _ => (dg_tup ((cx.blk _ _ _ _ _).calm rfl) (dgs_cons (dg_name (pg_name (i := 1) (cx.blk _ _ _ _ _).nd rfl (.inl rfl)))
  (dgs_cons (dg_name (pg_name (i := 2) (cx.blk _ _ _ _ _).nd rfl (.inl rfl))) dgs_nil)))) (fun _ _ _ _ _ => dts_nil) (fun _ _ _ _ _ => (de_bin (de_bin (de_prT
  (cx.blk _ _ _ _ _) m_str (bi_strL tx.dig ((cx.blk _ _ _ _ _).calm rfl)) (by rfl) b_str (da_cons (de_var (pv 1)) da_nil)) (de_glo (gok _) (i := 6) rfl
  (by rfl))) (de_prT (cx.blk _ _ _ _ _) m_str (bi_strL tx.dig ((cx.blk _ _ _ _ _).calm rfl)) (by rfl) b_str (da_cons (de_var (pv 2)) da_nil))))
  (by decide)))))
  dss_nil))
theorem at_parse_city (tx : Txt K mg w) (cc : Calls P w K mg base k nms kwt T C) : FnAt P w K mg base (k + 1) "parse_city" 1 (kwt 11) (fun ds S => if ds.length = 1 then trim S (endR (run W C G bd_parse_city (startE 4 ds) S)) else .bad) := by
  obtain ⟨f, fdd, hm, ⟨_, F⟩, hb, hkb⟩ := tx.t_parse_city.ex
  refine def_ok (fd := fd_parse_city) (i := f_parse_city) (T := T) (C := C) (G := G) (n := W) tx.nob F sc_parse_city rfl rfl rfl hm hb hkb ?_
  intro cdv A outer s H E cx room tk ow
  have gok := fun y => GOk.kw (y := y) tx.gok
  exact (dss_cons (ds_if (dt_nt (dt_tru (de_biB cx m_isinstance bi_isinst (by rfl) b_isinstance (da_cons (de_var (pv 0)) (da_cons (de_ty cx m_str (by rfl)
  b_str) da_nil))))) (dss_cons (ds_raise0 (c := 7) (by rfl) tx.x_InvalidText cx tk (by rfl))
  dss_nil) dss_nil)
  (dss_cons (ds_asg (de_biT cx m_tuple
  bi_tuple (by rfl) b_tuple (da_cons (de_frzv (de_lc (own := [("part", 2)]) cx (di_itr (de_split (de_var (pv 0)) (de_glo (gok _) (i := 5) rfl (by rfl))))
  (blkOk_by (own := [("part", 2)]) (N := nm_parse_city) (sc := defScope s_parse_city) (by decide +kernel)) (fun _ _ _ _ _ => (dg_name (pg_name (i := 2) (cx.blk
  _ _ _ _ _).nd rfl (.inl rfl)))) (fun _ _ _ _ _ => dts_nil) (fun _ _ _ _ _ => (de_biT (cx.blk _ _ _ _ _) m_tuple bi_tuple (by rfl) b_tuple (da_cons (de_frzv
  (de_lc (own := [("word", 3)]) (cx.blk _ _ _ _ _) (di_itr (de_split (de_var (pv 2)) (de_glo (gok _) (i := 4) rfl (by rfl)))) (blkOk_by (own := [("word", 3)])
  (by rfl)) (fun _ _ _ _ _ => (dg_name (pg_name (i := 3) ((cx.blk _ _ _ _ _).blk _ _ _ _ _).nd rfl (.inl rfl)))) (fun _ _ _ _ _ => dts_nil) (fun _ _ _ _ _ =>
  (de_call cc (i := 5) (by rfl) (by rfl) ((cx.blk _ _ _ _ _).blk _ _ _ _ _) room takes0 (by rfl) (da_cons (de_var (pv 3)) da_nil))) (by decide))) da_nil)))
  (by decide))) da_nil)) (dgu_bind (dg_name (pg_name (i := 1) cx.nd rfl (.inl rfl)))))
  (dss_cons (ds_if (dt_nt (dt_tru (de_call cc (i := 3) (by rfl) (by rfl)
  cx room tk (by rfl) (da_cons (de_var (pv 1)) da_nil)))) (dss_cons (ds_raise0 (c := 7) (by rfl) tx.x_InvalidText cx tk (by rfl))
  dss_nil) dss_nil)
  (dss_cons (ds_ret (de_var (pv 1)))
  dss_nil))))
theorem at_parse_drive (tx : Txt K mg w) (cc : Calls P w K mg base k nms kwt T C) : FnAt P w K mg base (k + 1) "parse_drive" 1 (kwt 12) (fun ds S => if ds.length = 1 then trim S (endR (run W C G bd_parse_drive (startE 3 ds) S)) else .bad) := by
  obtain ⟨f, fdd, hm, ⟨_, F⟩, hb, hkb⟩ := tx.t_parse_drive.ex
  refine def_ok (fd := fd_parse_drive) (i := f_parse_drive) (T := T) (C := C) (G := G) (n := W) tx.nob F sc_parse_drive rfl rfl rfl hm hb hkb ?_
  intro cdv A outer s H E cx room tk ow
  have gok := fun y => GOk.kw (y := y) tx.gok
  exact (dss_cons (ds_if (dt_nt (dt_tru (de_biB cx m_isinstance bi_isinst (by rfl) b_isinstance (da_cons (de_var (pv 0)) (da_cons (de_ty cx m_str (by rfl)
  b_str) da_nil))))) (dss_cons (ds_raise0 (c := 7) (by rfl) tx.x_InvalidText cx tk (by rfl))
  dss_nil) dss_nil)
  (dss_cons (ds_setLc (i := 1) (own :=
  [("word", 2)]) cx rfl rfl (sw_true rfl rfl rfl (by decide +kernel)) (di_itr (de_split (de_var (pv 0)) (de_glo (gok _) (i := 4) rfl (by rfl)))) (blkOk_by (own
  := [("word", 2)]) (N := nm_parse_drive) (sc := defScope s_parse_drive) (by decide +kernel)) (fun _ _ _ _ _ => (dg_name (pg_name (i := 2) (cx.blk _ _ _ _
  _).nd rfl (.inl rfl)))) (fun _ _ _ _ _ => dts_nil) (fun _ _ _ _ _ => (de_call cc (i := 6) (by rfl) (by rfl) (cx.blk _ _ _ _ _) room takes0 (by rfl) (da_cons
  (de_var (pv 2)) da_nil))) (by decide))
  (dss_cons (ds_if (dt_cmp cx de_non (de_var (pv 1))) (dss_cons (ds_raise0 (c := 7) (by rfl) tx.x_InvalidText cx tk
  (by rfl))
  dss_nil) dss_nil)
  (dss_cons (ds_ret (de_var (pv 1)))
  dss_nil))))
theorem at__law_source (tx : Txt K mg w) (cc : Calls P w K mg base k nms kwt T C) : FnAt P w K mg base (k + 1) "_law_source" 2 (kwt 13) (fun ds S => if ds.length = 2 then trim S (endR (run W C G bd__law_source (startE 3 ds) S)) else .bad) := by
  obtain ⟨f, fdd, hm, ⟨_, F⟩, hb, hkb⟩ := tx.t__law_source.ex
  refine def_ok (fd := fd__law_source) (i := f__law_source) (T := T) (C := C) (G := G) (n := W) tx.nob F sc__law_source rfl rfl rfl hm hb hkb ?_
  intro cdv A outer s H E cx room tk ow
  have gok := fun y => GOk.kw (y := y) tx.gok
  exact (dss_cons (ds_asg (de_ife (dt_cmp cx (de_var (pv 1)) (de_biB cx m_len bi_len (by rfl) b_len (da_cons (de_var (pv 0)) da_nil))) (de_ix cx (de_var (pv
  0)) (de_var (pv 1))) de_int) (dgu_bind (dg_name (pg_name (i := 2) cx.nd rfl (.inl rfl)))))
  (dss_cons (ds_ret (de_lst (da_cons (de_biB cx m_max (bi_max
  (cx.calm rfl)) (by rfl) b_max (da_cons de_int (da_cons (de_bin (de_biB cx m_abs bi_abs (by rfl) b_abs (da_cons (de_var (pv 2)) da_nil)) (de_bin de_int
  de_int)) da_nil))) (da_cons (de_bin (de_bin (de_var (pv 2)) (de_bin (de_bin de_int de_int) de_int)) (de_bin de_int (de_var (pv 1)))) (da_cons de_int
  da_nil)))))
  dss_nil))
theorem at__law_draw (tx : Txt K mg w) (cc : Calls P w K mg base k nms kwt T C) : FnAt P w K mg base (k + 1) "_law_draw" 2 (kwt 14) (fun ds S => if ds.length = 2 then trim S (endR (run W C G bd__law_draw (startE 4 ds) S)) else .bad) := by
  obtain ⟨f, fdd, hm, ⟨_, F⟩, hb, hkb⟩ := tx.t__law_draw.ex
  refine def_ok (fd := fd__law_draw) (i := f__law_draw) (T := T) (C := C) (G := G) (n := W) tx.nob F sc__law_draw rfl rfl rfl hm hb hkb ?_
  intro cdv A outer s H E cx room tk ow
  have gok := fun y => GOk.kw (y := y) tx.gok
  exact (dss_cons (ds_if (dt_cmp cx (de_ix cx (de_var (pv 0)) de_int) de_int) (dss_cons (ds_asg (de_bin (de_ix cx (de_var (pv 0)) de_int) (de_var (pv 1)))
  (dgu_bind (dg_name (pg_name (i := 2) cx.nd rfl (.inl rfl)))))
  (dss_cons (ds_asg (de_bin (de_ix cx (de_var (pv 0)) de_int) (de_var (pv 1))) (dgu_ix cx
  (de_var (pv 0)) de_int))
  (dss_cons (ds_ret (de_var (pv 2)))
  dss_nil))) dss_nil)
  (dss_cons (ds_asg (de_bin (de_ix cx (de_var (pv 0)) de_int) de_int)
  (dgu_ix cx (de_var (pv 0)) de_int))
  (dss_cons (ds_asg (de_bin (de_bin (de_bin (de_ix cx (de_var (pv 0)) de_int) (de_bin de_int (de_ix cx (de_var (pv 0))
  de_int))) de_int) (de_bin (de_bin de_int de_int) de_int)) (dgu_bind (dg_name (pg_name (i := 3) cx.nd rfl (.inl rfl)))))
  (dss_cons (ds_asg (de_bin (de_bin
  (de_bin (de_var (pv 3)) (de_bin de_int (de_ix cx (de_var (pv 0)) de_int))) de_int) (de_bin (de_bin de_int de_int) de_int)) (dgu_bind (dg_name (pg_name (i :=
  3) cx.nd rfl (.inl rfl)))))
  (dss_cons (ds_ret (de_bin (de_bin (de_var (pv 3)) de_int) (de_var (pv 1))))
  dss_nil)))))
theorem at__law_runs (tx : Txt K mg w) (cc : Calls P w K mg base k nms kwt T C) : FnAt P w K mg base (k + 1) "_law_runs" 4 (kwt 15) (fun ds S => if ds.length = 4 then trim S (endR (run W C G bd__law_runs (startE 8 ds) S)) else .bad) := by
  obtain ⟨f, fdd, hm, ⟨_, F⟩, hb, hkb⟩ := tx.t__law_runs.ex
  refine def_ok (fd := fd__law_runs) (i := f__law_runs) (T := T) (C := C) (G := G) (n := W) tx.nob F sc__law_runs rfl rfl rfl hm hb hkb ?_
  intro cdv A outer s H E cx room tk ow
  have gok := fun y => GOk.kw (y := y) tx.gok
  exact (dss_cons (ds_par2 (i := 4) (j := 5) (cx.calm rfl) cx.nd rfl rfl (by decide) rfl rfl (da_cons (de_call cc (i := 14) (by rfl) (by rfl) cx room tk
  (by rfl) (da_cons (de_var (pv 0)) (da_cons de_int da_nil))) (da_cons (de_lst da_nil) da_nil)) (by rfl))
  (dss_cons (ds_fz (i := 5) (ds_for ow (cx.calm rfl)
  (di_rng1 cx (by rfl) (de_bin de_int (de_call cc (i := 14) (by rfl) (by rfl) cx room tk (by rfl) (da_cons (de_var (pv 0)) (da_cons (de_var (pv 2)) da_nil)))))
  (dg_name (pg_name (i := 6) cx.nd rfl (.inl rfl))) (dss_cons (ds_asg (de_ix cx (de_frzv (de_lst (da_cons de_int (da_cons (de_bin de_int (de_call cc (i := 14)
  (by rfl) (by rfl) cx room tk (by rfl) (da_cons (de_var (pv 0)) (da_cons de_int da_nil)))) (da_cons (de_bin de_int (de_call cc (i := 14) (by rfl) (by rfl) cx
  room tk (by rfl) (da_cons (de_var (pv 0)) (da_cons (de_var (pv 3)) da_nil)))) da_nil))))) (de_call cc (i := 14) (by rfl) (by rfl) cx room tk (by rfl)
  (da_cons (de_var (pv 0)) (da_cons de_int da_nil)))) (dgu_bind (dg_name (pg_name (i := 7) cx.nd rfl (.inl rfl)))))
  (dss_cons (ds_expr (de_mt mi_append
  (de_var (pv 5)) (da_cons (de_tup (da_cons (de_ix cx (de_var (pv 1)) (de_bin (de_bin (de_var (pv 4)) (de_var (pv 6))) de_int)) (da_cons (de_var (pv 7))
  da_nil))) da_nil)))
  dss_nil))))
  (dss_cons (ds_ret (de_biT cx m_tuple bi_tuple (by rfl) b_tuple (da_cons (de_var (pv 5)) da_nil)))
  dss_nil)))
theorem at__law_town (tx : Txt K mg w) (cc : Calls P w K mg base k nms kwt T C) : FnAt P w K mg base (k + 1) "_law_town" 3 (kwt 16) (fun ds S => if ds.length = 3 then trim S (endR (run W C G bd__law_town (startE 3 ds) S)) else .bad) := by
  obtain ⟨f, fdd, hm, ⟨_, F⟩, hb, hkb⟩ := tx.t__law_town.ex
  refine def_ok (fd := fd__law_town) (i := f__law_town) (T := T) (C := C) (G := G) (n := W) tx.nob F sc__law_town rfl rfl rfl hm hb hkb ?_
  intro cdv A outer s H E cx room tk ow
  have gok := fun y => GOk.kw (y := y) tx.gok
  exact (dss_cons (ds_ret (de_tup (da_cons (de_call cc (i := 15) (by rfl) (by rfl) cx room tk (by rfl) (da_cons (de_var (pv 0)) (da_cons de_str (da_cons
  (de_var (pv 1)) (da_cons (de_var (pv 2)) da_nil))))) (da_cons (de_call cc (i := 15) (by rfl) (by rfl) cx room tk (by rfl) (da_cons (de_var (pv 0)) (da_cons
  de_str (da_cons (de_var (pv 1)) (da_cons (de_var (pv 2)) da_nil))))) da_nil))))
  dss_nil)
theorem at__law_note (tx : Txt K mg w) (cc : Calls P w K mg base k nms kwt T C) : FnAt P w K mg base (k + 1) "_law_note" 1 (kwt 17) (fun ds S => if ds.length = 1 then trim S (endR (run W C G bd__law_note (startE 5 ds) S)) else .bad) := by
  obtain ⟨f, fdd, hm, ⟨_, F⟩, hb, hkb⟩ := tx.t__law_note.ex
  refine def_ok (fd := fd__law_note) (i := f__law_note) (T := T) (C := C) (G := G) (n := W) tx.nob F sc__law_note rfl rfl rfl hm hb hkb ?_
  intro cdv A outer s H E cx room tk ow
  have gok := fun y => GOk.kw (y := y) tx.gok
  exact (dss_cons (ds_asg de_str (dgu_bind (dg_name (pg_name (i := 1) cx.nd rfl (.inl rfl)))))
  (dss_cons (ds_for ow (cx.calm rfl) (di_rng1 cx (by rfl)
  de_int) (dg_name (pg_name (i := 2) cx.nd rfl (.inl rfl))) (dss_cons (ds_for ow (cx.calm rfl) (di_itr (de_ix cx (de_var (pv 0)) (de_var (pv 2)))) (dg_tup
  (cx.calm rfl) (dgs_cons (dg_name (pg_name (i := 3) cx.nd rfl (.inl rfl))) (dgs_cons (dg_name (pg_name (i := 4) cx.nd rfl (.inl rfl))) dgs_nil))) (dss_cons
  (ds_asg (de_bin (de_bin (de_bin (de_var (pv 1)) (de_var (pv 3))) (de_biT cx m_str bi_str (by rfl) b_str (da_cons (de_var (pv 4)) da_nil))) de_str) (dgu_bind
  (dg_name (pg_name (i := 1) cx.nd rfl (.inl rfl)))))
  dss_nil))
  (dss_cons (ds_asg (de_bin (de_var (pv 1)) (de_ix cx (de_frzv (de_lst (da_cons de_str
  (da_cons de_str da_nil)))) (de_var (pv 2)))) (dgu_bind (dg_name (pg_name (i := 1) cx.nd rfl (.inl rfl)))))
  dss_nil)))
  (dss_cons (ds_ret (de_frzv (de_sl
  (de_var (pv 1)) dp_none (dp_some (de_neg de_int)))))
  dss_nil)))
theorem at__law_line (tx : Txt K mg w) (cc : Calls P w K mg base k nms kwt T C) : FnAt P w K mg base (k + 1) "_law_line" 1 (kwt 18) (fun ds S => if ds.length = 1 then trim S (endR (run W C G bd__law_line (startE 4 ds) S)) else .bad) := by
  obtain ⟨f, fdd, hm, ⟨_, F⟩, hb, hkb⟩ := tx.t__law_line.ex
  refine def_ok (fd := fd__law_line) (i := f__law_line) (T := T) (C := C) (G := G) (n := W) tx.nob F sc__law_line rfl rfl rfl hm hb hkb ?_
  intro cdv A outer s H E cx room tk ow
  have gok := fun y => GOk.kw (y := y) tx.gok
  exact (dss_cons (ds_asg de_str (dgu_bind (dg_name (pg_name (i := 1) cx.nd rfl (.inl rfl)))))
  (dss_cons (ds_for ow (cx.calm rfl) (di_itr (de_var (pv 0)))
  (dg_tup (cx.calm rfl) (dgs_cons (dg_name (pg_name (i := 2) cx.nd rfl (.inl rfl))) (dgs_cons (dg_name (pg_name (i := 3) cx.nd rfl (.inl rfl))) dgs_nil)))
  (dss_cons (ds_asg (de_bin (de_bin (de_bin (de_bin (de_var (pv 1)) (de_biT cx m_str bi_str (by rfl) b_str (da_cons (de_var (pv 2)) da_nil))) de_str) (de_biT
  cx m_str bi_str (by rfl) b_str (da_cons (de_var (pv 3)) da_nil))) de_str) (dgu_bind (dg_name (pg_name (i := 1) cx.nd rfl (.inl rfl)))))
  dss_nil))
  (dss_cons (ds_ret (de_frzv (de_sl (de_var (pv 1)) dp_none (dp_some (de_neg de_int)))))
  dss_nil)))
theorem at__law_both_ways (tx : Txt K mg w) (cc : Calls P w K mg base k nms kwt T C) : FnAt P w K mg base (k + 1) "_law_both_ways" 2 (kwt 19) (fun ds S => if ds.length = 2 then trim S (endR (run W C G bd__law_both_ways (startE 7 ds) S)) else .bad) := by
  obtain ⟨f, fdd, hm, ⟨_, F⟩, hb, hkb⟩ := tx.t__law_both_ways.ex
  refine def_ok (fd := fd__law_both_ways) (i := f__law_both_ways) (T := T) (C := C) (G := G) (n := W) tx.nob F sc__law_both_ways rfl rfl rfl hm hb hkb ?_
  intro cdv A outer s H E cx room tk ow
  have gok := fun y => GOk.kw (y := y) tx.gok
  exact (dss_cons (ds_par2 (i := 2) (j := 3) (cx.calm rfl) cx.nd rfl rfl (by decide) rfl rfl (da_cons (de_call cc (i := 17) (by rfl) (by rfl) cx room tk
  (by rfl) (da_cons (de_var (pv 0)) da_nil)) (da_cons (de_call cc (i := 18) (by rfl) (by rfl) cx room tk (by rfl) (da_cons (de_var (pv 1)) da_nil)) da_nil))
  (by rfl))
  (dss_cons (ds_asg (de_biB cx m_repr (bi_repr cx) (by rfl) b_repr (da_cons (de_frzv (de_lst (da_cons (de_var (pv 0)) (da_cons (de_var (pv 1))
  da_nil)))) da_nil)) (dgu_bind (dg_name (pg_name (i := 4) cx.nd rfl (.inl rfl)))))
  (dss_cons (ds_if (dt_cmp cx (de_frzv (de_lst (da_cons (de_call cc (i :=
  9) (by rfl) (by rfl) cx room tk (by rfl) (da_cons (de_var (pv 0)) da_nil)) (da_cons (de_callk0 (q := (0, ["city"], [0])) cc (i := 9) (j := 0) (by rfl)
  (by rfl) (by rfl) cx room tk (by rfl) (dk_cons (de_var (pv 0)) dk_nil)) da_nil)))) (de_frzv (de_lst (da_cons (de_var (pv 2)) (da_cons (de_var (pv 2))
  da_nil))))) (dss_cons (ds_ret de_bl)
  dss_nil) dss_nil)
  (dss_cons (ds_if (dt_cmp cx (de_frzv (de_lst (da_cons (de_call cc (i := 10) (by rfl) (by rfl) cx
  room tk (by rfl) (da_cons (de_var (pv 1)) da_nil)) (da_cons (de_callk0 (q := (0, ["drive"], [0])) cc (i := 10) (j := 0) (by rfl) (by rfl) (by rfl) cx room tk
  (by rfl) (dk_cons (de_var (pv 1)) dk_nil)) da_nil)))) (de_frzv (de_lst (da_cons (de_var (pv 3)) (da_cons (de_var (pv 3)) da_nil))))) (dss_cons (ds_ret
  de_bl)
  dss_nil) dss_nil)
  (dss_cons (ds_for ow (cx.calm rfl) (di_rng1 cx (by rfl) de_int) (dg_name (pg_name (i := 5) cx.nd rfl (.inl rfl))) (dss_cons
  (ds_asg (de_lst (da_cons (de_call cc (i := 12) (by rfl) (by rfl) cx room tk (by rfl) (da_cons (de_var (pv 3)) da_nil)) (da_cons (de_callk0 (q := (0,
  ["text"], [0])) cc (i := 12) (j := 0) (by rfl) (by rfl) (by rfl) cx room tk (by rfl) (dk_cons (de_var (pv 3)) dk_nil)) da_nil))) (dgu_bind (dg_name (pg_name
  (i := 6) cx.nd rfl (.inl rfl)))))
  (dss_cons (ds_if (dw_or (dt_cmp cx (de_biB cx m_repr (bi_repr cx) (by rfl) b_repr (da_cons (de_var (pv 6)) da_nil))
  (de_biB cx m_repr (bi_repr cx) (by rfl) b_repr (da_cons (de_frzv (de_lst (da_cons (de_var (pv 1)) (da_cons (de_var (pv 1)) da_nil)))) da_nil))) (dw_one_or
  (dt_cmp cx (de_biB cx m_repr (bi_repr cx) (by rfl) b_repr (da_cons (de_call cc (i := 11) (by rfl) (by rfl) cx room tk (by rfl) (da_cons (de_var (pv 2))
  da_nil)) da_nil)) (de_biB cx m_repr (bi_repr cx) (by rfl) b_repr (da_cons (de_var (pv 0)) da_nil))))).pt (dss_cons (ds_ret de_bl)
  dss_nil) dss_nil)
  (dss_cons (ds_if (dw_or (dt_cmp cx (de_callk0 (q := (0, ["text"], [0])) cc (i := 11) (j := 0) (by rfl) (by rfl) (by rfl) cx room tk (by rfl) (dk_cons (de_var
  (pv 2)) dk_nil)) (de_var (pv 0))) (dw_one_or (dt_cmp cx (de_biB cx m_repr (bi_repr cx) (by rfl) b_repr (da_cons (de_frzv (de_lst (da_cons (de_var (pv 0))
  (da_cons (de_var (pv 1)) da_nil)))) da_nil)) (de_var (pv 4))))).pt (dss_cons (ds_ret de_bl)
  dss_nil) dss_nil)
  (dss_cons (ds_expr (de_mt mi_append (de_ix
  cx (de_var (pv 6)) de_int) (da_cons (de_tup (da_cons de_int (da_cons de_int da_nil))) da_nil)))
  dss_nil)))))
  (dss_cons (ds_ret de_bl)
  dss_nil))))))
theorem at__law_point (tx : Txt K mg w) (cc : Calls P w K mg base k nms kwt T C) : FnAt P w K mg base (k + 1) "_law_point" 2 (kwt 20) (fun ds S => if ds.length = 2 then trim S (endR (run W C G bd__law_point (startE 3 ds) S)) else .bad) := by
  obtain ⟨f, fdd, hm, ⟨_, F⟩, hb, hkb⟩ := tx.t__law_point.ex
  refine def_ok (fd := fd__law_point) (i := f__law_point) (T := T) (C := C) (G := G) (n := W) tx.nob F sc__law_point rfl rfl rfl hm hb hkb ?_
  intro cdv A outer s H E cx room tk ow
  have gok := fun y => GOk.kw (y := y) tx.gok
  exact (dss_cons (ds_asg (de_call cc (i := 14) (by rfl) (by rfl) cx room tk (by rfl) (da_cons (de_var (pv 0)) (da_cons (de_ix cx (de_frzv (de_lst (da_cons
  de_int (da_cons de_int (da_cons (de_var (pv 1)) da_nil))))) (de_call cc (i := 14) (by rfl) (by rfl) cx room tk (by rfl) (da_cons (de_var (pv 0)) (da_cons
  de_int da_nil)))) da_nil))) (dgu_bind (dg_name (pg_name (i := 2) cx.nd rfl (.inl rfl)))))
  (dss_cons (ds_ret (de_tup (da_cons (de_var (pv 2)) (da_cons
  (de_call cc (i := 14) (by rfl) (by rfl) cx room tk (by rfl) (da_cons (de_var (pv 0)) (da_cons (de_ix cx (de_frzv (de_lst (da_cons de_int (da_cons de_int
  (da_cons (de_var (pv 1)) da_nil))))) (de_call cc (i := 14) (by rfl) (by rfl) cx room tk (by rfl) (da_cons (de_var (pv 0)) (da_cons de_int da_nil))))
  da_nil))) da_nil))))
  dss_nil))
theorem at__law_long_right (tx : Txt K mg w) (cc : Calls P w K mg base k nms kwt T C) : FnAt P w K mg base (k + 1) "_law_long_right" 0 (kwt 21) (fun ds S => if ds.length = 0 then trim S (endR (run W C G bd__law_long_right (startE 7 ds) S)) else .bad) := by
  obtain ⟨f, fdd, hm, ⟨_, F⟩, hb, hkb⟩ := tx.t__law_long_right.ex
  refine def_ok (fd := fd__law_long_right) (i := f__law_long_right) (T := T) (C := C) (G := G) (n := W) tx.nob F sc__law_long_right rfl rfl rfl hm hb hkb ?_
  intro cdv A outer s H E cx room tk ow
  have gok := fun y => GOk.kw (y := y) tx.gok
  exact (dss_cons (ds_asg (de_biT cx m_tuple bi_tuple (by rfl) b_tuple (da_cons (de_frzv (de_lc (own := [("_law_k", 6)]) cx (di_rng1 cx (by rfl) de_int)
  (blkOk_by (own := [("_law_k", 6)]) (N := nm__law_long_right) (sc := defScope s__law_long_right) (by decide +kernel)) (fun _ _ _ _ _ => (dg_name (pg_name (i
  := 6) (cx.blk _ _ _ _ _).nd rfl (.inl rfl)))) (fun _ _ _ _ _ => dts_nil) (fun _ _ _ _ _ => (de_tup (da_cons (de_ix (cx.blk _ _ _ _ _) de_str (de_bin (de_var
  (pv 6)) de_int)) (da_cons (de_bin (de_bin de_int de_int) (de_var (pv 6))) da_nil)))) (by decide))) da_nil)) (dgu_bind (dg_name (pg_name (i := 0) cx.nd rfl
  (.inl rfl)))))
  (dss_cons (ds_asg (de_biT cx m_tuple bi_tuple (by rfl) b_tuple (da_cons (de_frzv (de_lc (own := [("_law_k", 6)]) cx (di_rng1 cx (by rfl)
  de_int) (blkOk_by (own := [("_law_k", 6)]) (N := nm__law_long_right) (sc := defScope s__law_long_right) (by decide +kernel)) (fun _ _ _ _ _ => (dg_name
  (pg_name (i := 6) (cx.blk _ _ _ _ _).nd rfl (.inl rfl)))) (fun _ _ _ _ _ => dts_nil) (fun _ _ _ _ _ => (de_tup (da_cons (de_ix (cx.blk _ _ _ _ _) de_str
  (de_bin (de_var (pv 6)) de_int)) (da_cons (de_bin (de_bin (de_bin de_int de_int) de_int) (de_var (pv 6))) da_nil)))) (by decide))) da_nil)) (dgu_bind
  (dg_name (pg_name (i := 1) cx.nd rfl (.inl rfl)))))
  (dss_cons (ds_asg (de_call cc (i := 17) (by rfl) (by rfl) cx room tk (by rfl) (da_cons (de_tup (da_cons
  (de_var (pv 0)) (da_cons (de_var (pv 1)) da_nil))) da_nil)) (dgu_bind (dg_name (pg_name (i := 2) cx.nd rfl (.inl rfl)))))
  (dss_cons (ds_asg (de_call cc (i
  := 11) (by rfl) (by rfl) cx room tk (by rfl) (da_cons (de_var (pv 2)) da_nil)) (dgu_bind (dg_name (pg_name (i := 3) cx.nd rfl (.inl rfl)))))
  (dss_cons
  (ds_if (dw_or (dt_cmp cx (de_biB cx m_len bi_len (by rfl) b_len (da_cons (de_var (pv 2)) da_nil)) de_int) (dw_or (dt_cmp cx (de_var (pv 3)) (de_tup (da_cons
  (de_var (pv 0)) (da_cons (de_var (pv 1)) da_nil)))) (dw_one_or (dt_cmp cx (de_call cc (i := 9) (by rfl) (by rfl) cx room tk (by rfl) (da_cons (de_var (pv 3))
  da_nil)) (de_var (pv 2)))))).pt (dss_cons (ds_ret de_bl)
  dss_nil) dss_nil)
  (dss_cons (ds_fz (i := 4) (ds_setLc (i := 4) (own := [("_law_k", 6)]) cx rfl
  rfl (sw_true rfl rfl rfl (by decide +kernel)) (di_rng1 cx (by rfl) de_int) (blkOk_by (own := [("_law_k", 6)]) (N := nm__law_long_right) (sc := defScope
  s__law_long_right) (by decide +kernel)) (fun _ _ _ _ _ => (dg_name (pg_name (i := 6) (cx.blk _ _ _ _ _).nd rfl (.inl rfl)))) (fun _ _ _ _ _ => dts_nil) (fun
  _ _ _ _ _ => (de_tup (da_cons (de_var (pv 6)) (da_cons (de_bin (de_bin de_int de_int) (de_var (pv 6))) da_nil)))) (by decide)))
  (dss_cons (ds_asg (de_call
  cc (i := 18) (by rfl) (by rfl) cx room tk (by rfl) (da_cons (de_var (pv 4)) da_nil)) (dgu_bind (dg_name (pg_name (i := 5) cx.nd rfl (.inl rfl)))))
  (dss_cons (ds_ret (de_and (de_cmp cx (de_biB cx m_len bi_len (by rfl) b_len (da_cons (de_var (pv 5)) da_nil)) de_int) (de_and (de_cmp cx (de_frzv (de_call cc
  (i := 12) (by rfl) (by rfl) cx room tk (by rfl) (da_cons (de_var (pv 5)) da_nil))) (de_var (pv 4))) (pe_one (de_cmp cx (de_call cc (i := 10) (by rfl)
  (by rfl) cx room tk (by rfl) (da_cons (de_var (pv 4)) da_nil)) (de_var (pv 5)))))))
  dss_nil))))))))
theorem at_law (tx : Txt K mg w) (cc : Calls P w K mg base k nms kwt T C) : FnAt P w K mg base (k + 1) "law" 1 (kwt 22) (fun ds S => if ds.length = 1 then trim S (endR (run W C G bd_law (startE 12 ds) S)) else .bad) := by
  obtain ⟨f, fdd, hm, ⟨_, F⟩, hb, hkb⟩ := tx.t_law.ex
  refine def_ok (fd := fd_law) (i := f_law) (T := T) (C := C) (G := G) (n := W) tx.nob F sc_law rfl rfl rfl hm hb hkb ?_
  intro cdv A outer s H E cx room tk ow
  have gok := fun y => GOk.kw (y := y) tx.gok
  exact (dss_cons (ds_for ow (cx.calm rfl) (di_rng1 cx (by rfl) (de_biB cx m_max (bi_max (cx.calm rfl)) (by rfl) b_max (da_cons de_int (da_cons (de_biB cx
  m_min (bi_min (cx.calm rfl)) (by rfl) b_min (da_cons de_int (da_cons (de_biB cx m_len bi_len (by rfl) b_len (da_cons (de_var (pv 0)) da_nil)) da_nil)))
  da_nil)))) (dg_name (pg_name (i := 1) cx.nd rfl (.inl rfl))) (dss_cons (ds_asg (de_call cc (i := 13) (by rfl) (by rfl) cx room tk (by rfl) (da_cons (de_var
  (pv 0)) (da_cons (de_var (pv 1)) da_nil))) (dgu_bind (dg_name (pg_name (i := 2) cx.nd rfl (.inr rfl)))))
  (dss_cons (ds_for ow (cx.calm rfl) (di_rng1 cx
  (by rfl) de_int) (dg_name (pg_name (i := 3) cx.nd rfl (.inl rfl))) (dss_cons (ds_par2 (i := 4) (j := 5) (cx.calm rfl) cx.nd rfl rfl (by decide) rfl rfl
  (da_cons (de_ix cx (de_frzv (de_lst (da_cons de_int (da_cons de_int da_nil)))) (de_call cc (i := 14) (by rfl) (by rfl) cx room tk (by rfl) (da_cons (de_var
  (pv 2)) (da_cons de_int da_nil)))) (da_cons (de_ix cx (de_frzv (de_lst (da_cons de_int (da_cons (de_bin de_int de_int) da_nil)))) (de_call cc (i := 14)
  (by rfl) (by rfl) cx room tk (by rfl) (da_cons (de_var (pv 2)) (da_cons de_int da_nil)))) da_nil)) (by rfl))
  (dss_cons (ds_asg (de_tup (da_cons (de_call cc
  (i := 16) (by rfl) (by rfl) cx room tk (by rfl) (da_cons (de_var (pv 2)) (da_cons (de_var (pv 4)) (da_cons (de_var (pv 5)) da_nil)))) (da_cons (de_ix cx
  (de_frzv (de_lst (da_cons de_int (da_cons (de_bin de_int de_int) (da_cons (de_bin de_int de_int) da_nil))))) (de_call cc (i := 14) (by rfl) (by rfl) cx room
  tk (by rfl) (da_cons (de_var (pv 2)) (da_cons de_int da_nil)))) da_nil))) (dgu_bind (dg_tup (cx.calm rfl) (dgs_cons (dg_name (pg_name (i := 6) cx.nd rfl
  (.inl rfl))) (dgs_cons (dg_name (pg_name (i := 7) cx.nd rfl (.inr rfl))) dgs_nil)))))
  (dss_cons (ds_asg (de_bin de_int (de_call cc (i := 14) (by rfl)
  (by rfl) cx room tk (by rfl) (da_cons (de_var (pv 2)) (da_cons (de_ix cx (de_frzv (de_lst (da_cons de_int (da_cons de_int da_nil)))) (de_call cc (i := 14)
  (by rfl) (by rfl) cx room tk (by rfl) (da_cons (de_var (pv 2)) (da_cons de_int da_nil)))) da_nil)))) (dgu_bind (dg_name (pg_name (i := 8) cx.nd rfl (.inl
  rfl)))))
  (dss_cons (ds_setLc (i := 9) (own := [("_law_step", 11)]) cx rfl rfl (sw_true rfl rfl rfl (by decide +kernel)) (di_rng1 cx (by rfl) (de_var (pv
  8))) (blkOk_by (own := [("_law_step", 11)]) (N := nm_law) (sc := defScope s_law) (by decide +kernel)) (fun _ _ _ _ _ => (dg_name (pg_name (i := 11) (cx.blk _
  _ _ _ _).nd rfl (.inl rfl)))) (fun _ _ _ _ _ => dts_nil) (fun _ _ _ _ _ => (de_call cc (i := 20) (by rfl) (by rfl) (cx.blk _ _ _ _ _) room takes0 (by rfl)
  (da_cons (de_var (pv 2)) (da_cons (de_var (pv 7)) da_nil)))) (by decide))
  (dss_cons (ds_if (dt_nt (dt_tru (de_call cc (i := 19) (by rfl) (by rfl) cx room
  tk (by rfl) (da_cons (de_var (pv 6)) (da_cons (de_var (pv 9)) da_nil))))) (dss_cons (ds_ret de_bl)
  dss_nil) dss_nil)
  (dss_cons (ds_fz (i := 9) (ds_asg
  (de_lst (da_cons (de_call cc (i := 20) (by rfl) (by rfl) cx room tk (by rfl) (da_cons (de_var (pv 2)) (da_cons (de_var (pv 7)) da_nil))) da_nil)) (dgu_sl
  (de_var (pv 9)) (dp_some (de_bin (de_var (pv 8)) de_int)) dp_none)))
  (dss_cons (ds_if (dt_nt (dt_tru (de_call cc (i := 19) (by rfl) (by rfl) cx room tk
  (by rfl) (da_cons (de_var (pv 6)) (da_cons (de_var (pv 9)) da_nil))))) (dss_cons (ds_ret de_bl)
  dss_nil) dss_nil)
  dss_nil))))))))
  dss_nil)))
  (dss_cons (ds_asg (de_tup (da_cons (de_tup (da_cons (de_tup (da_cons de_str (da_cons de_int da_nil))) (da_cons (de_tup (da_cons de_str (da_cons de_int
  da_nil))) da_nil))) (da_cons (de_tup (da_cons (de_tup (da_cons de_str (da_cons de_int da_nil))) da_nil)) da_nil))) (dgu_bind (dg_name (pg_name (i := 6) cx.nd
  rfl (.inl rfl)))))
  (dss_cons (ds_if (dw_or (dt_cmp cx (de_call cc (i := 9) (by rfl) (by rfl) cx room tk (by rfl) (da_cons (de_var (pv 6)) da_nil)) de_str)
  (dw_one_or (dt_cmp cx (de_frzv (de_call cc (i := 12) (by rfl) (by rfl) cx room tk (by rfl) (da_cons de_str da_nil))) (de_frzv (de_lst (da_cons (de_tup
  (da_cons de_int (da_cons de_int da_nil))) da_nil)))))).pt (dss_cons (ds_ret de_bl)
  dss_nil) dss_nil)
  (dss_cons (ds_asg (de_frzv (de_lst (da_cons (de_call
  cc (i := 11) (by rfl) (by rfl) cx room tk (by rfl) (da_cons (de_bin (de_bin de_str (de_mulS de_str de_int)) de_str) da_nil)) (da_cons (de_frzv (de_call cc (i
  := 12) (by rfl) (by rfl) cx room tk (by rfl) (da_cons (de_bin (de_bin de_str (de_mulS de_str de_int)) de_str) da_nil))) da_nil)))) (dgu_bind (dg_name
  (pg_name (i := 10) cx.nd rfl (.inl rfl)))))
  (dss_cons (ds_if (dt_cmp cx (de_var (pv 10)) (de_frzv (de_lst (da_cons (de_tup (da_cons (de_tup (da_cons
  (de_tup (da_cons de_str (da_cons (de_bin (de_bin (de_bin (de_bin (de_bin de_int de_int) (de_bin de_int de_int)) (de_bin de_int de_int)) (de_bin de_int
  de_int)) (de_bin de_int de_int)) da_nil))) da_nil)) (da_cons (de_tup (da_cons (de_tup (da_cons de_str (da_cons de_int da_nil))) da_nil)) da_nil))) (da_cons
  (de_ix cx (de_var (pv 10)) de_int) da_nil))))) (dss_cons (ds_ret de_bl)
  dss_nil) dss_nil)
  (dss_cons (ds_if (dw_or (dt_cmp cx (de_call cc (i := 9)
  (by rfl) (by rfl) cx room tk (by rfl) (da_cons (de_ix cx (de_var (pv 10)) de_int) da_nil)) (de_bin (de_bin de_str (de_mulS de_str de_int)) de_str))
  (dw_one_or (dt_cmp cx (de_call cc (i := 10) (by rfl) (by rfl) cx room tk (by rfl) (da_cons (de_ix cx (de_var (pv 10)) de_int) da_nil)) (de_bin (de_bin de_str
  (de_mulS de_str de_int)) de_str)))).pt (dss_cons (ds_ret de_bl)
  dss_nil) dss_nil)
  (dss_cons (ds_ret (de_callk0 (q := (0, [], [])) cc (i := 21) (j := 0)
  (by rfl) (by rfl) (by rfl) cx room tk (by rfl) dk_nil))
  dss_nil)))))))
theorem calls_ok (tx : Txt K mg w) : ∀ k, Calls P w K mg base (k) nms kwt T (CF k)
  | 0 => ⟨fun i x fd hx hT => by
    match i, hx, hT with
    | 0, hx, hT => cases hx; cases hT; exact at_zero tx.t_is_integer (CF 0 0) (fun _ _ => rfl)
    | 1, hx, hT => cases hx; cases hT; exact at_zero tx.t_is_run (CF 0 1) (fun _ _ => rfl)
    | 2, hx, hT => cases hx; cases hT; exact at_zero tx.t_are_runs (CF 0 2) (fun _ _ => rfl)
    | 3, hx, hT => cases hx; cases hT; exact at_zero tx.t_is_city (CF 0 3) (fun _ _ => rfl)
    | 4, hx, hT => cases hx; cases hT; exact at_zero tx.t_read_number (CF 0 4) (fun _ _ => rfl)
    | 5, hx, hT => cases hx; cases hT; exact at_zero tx.t_read_run (CF 0 5) (fun _ _ => rfl)
    | 6, hx, hT => cases hx; cases hT; exact at_zero tx.t_read_point (CF 0 6) (fun _ _ => rfl)
    | 7, hx, hT => cases hx; cases hT; exact at_zero tx.t_is_path (CF 0 7) (fun _ _ => rfl)
    | 8, hx, hT => cases hx; cases hT; exact at_zero tx.t_format_runs (CF 0 8) (fun _ _ => rfl)
    | 9, hx, hT => cases hx; cases hT; exact at_zero tx.t_format_city (CF 0 9) (fun _ _ => rfl)
    | 10, hx, hT => cases hx; cases hT; exact at_zero tx.t_format_drive (CF 0 10) (fun _ _ => rfl)
    | 11, hx, hT => cases hx; cases hT; exact at_zero tx.t_parse_city (CF 0 11) (fun _ _ => rfl)
    | 12, hx, hT => cases hx; cases hT; exact at_zero tx.t_parse_drive (CF 0 12) (fun _ _ => rfl)
    | 13, hx, hT => cases hx; cases hT; exact at_zero tx.t__law_source (CF 0 13) (fun _ _ => rfl)
    | 14, hx, hT => cases hx; cases hT; exact at_zero tx.t__law_draw (CF 0 14) (fun _ _ => rfl)
    | 15, hx, hT => cases hx; cases hT; exact at_zero tx.t__law_runs (CF 0 15) (fun _ _ => rfl)
    | 16, hx, hT => cases hx; cases hT; exact at_zero tx.t__law_town (CF 0 16) (fun _ _ => rfl)
    | 17, hx, hT => cases hx; cases hT; exact at_zero tx.t__law_note (CF 0 17) (fun _ _ => rfl)
    | 18, hx, hT => cases hx; cases hT; exact at_zero tx.t__law_line (CF 0 18) (fun _ _ => rfl)
    | 19, hx, hT => cases hx; cases hT; exact at_zero tx.t__law_both_ways (CF 0 19) (fun _ _ => rfl)
    | 20, hx, hT => cases hx; cases hT; exact at_zero tx.t__law_point (CF 0 20) (fun _ _ => rfl)
    | 21, hx, hT => cases hx; cases hT; exact at_zero tx.t__law_long_right (CF 0 21) (fun _ _ => rfl)
    | 22, hx, hT => cases hx; cases hT; exact at_zero tx.t_law (CF 0 22) (fun _ _ => rfl)
    | n + 23, hx, hT => cases hx⟩
  | k + 1 => ⟨fun i x fd hx hT => by
    have cc := calls_ok tx k
    match i, hx, hT with
    | 0, hx, hT => cases hx; cases hT; exact at_is_integer tx cc
    | 1, hx, hT => cases hx; cases hT; exact at_is_run tx cc
    | 2, hx, hT => cases hx; cases hT; exact at_are_runs tx cc
    | 3, hx, hT => cases hx; cases hT; exact at_is_city tx cc
    | 4, hx, hT => cases hx; cases hT; exact at_read_number tx cc
    | 5, hx, hT => cases hx; cases hT; exact at_read_run tx cc
    | 6, hx, hT => cases hx; cases hT; exact at_read_point tx cc
    | 7, hx, hT => cases hx; cases hT; exact at_is_path tx cc
    | 8, hx, hT => cases hx; cases hT; exact at_format_runs tx cc
    | 9, hx, hT => cases hx; cases hT; exact at_format_city tx cc
    | 10, hx, hT => cases hx; cases hT; exact at_format_drive tx cc
    | 11, hx, hT => cases hx; cases hT; exact at_parse_city tx cc
    | 12, hx, hT => cases hx; cases hT; exact at_parse_drive tx cc
    | 13, hx, hT => cases hx; cases hT; exact at__law_source tx cc
    | 14, hx, hT => cases hx; cases hT; exact at__law_draw tx cc
    | 15, hx, hT => cases hx; cases hT; exact at__law_runs tx cc
    | 16, hx, hT => cases hx; cases hT; exact at__law_town tx cc
    | 17, hx, hT => cases hx; cases hT; exact at__law_note tx cc
    | 18, hx, hT => cases hx; cases hT; exact at__law_line tx cc
    | 19, hx, hT => cases hx; cases hT; exact at__law_both_ways tx cc
    | 20, hx, hT => cases hx; cases hT; exact at__law_point tx cc
    | 21, hx, hT => cases hx; cases hT; exact at__law_long_right tx cc
    | 22, hx, hT => cases hx; cases hT; exact at_law tx cc
    | n + 23, hx, hT => cases hx⟩
end
theorem txt_of {w : World} {K : PySem.W.Frag} {mg : Str → Option Value} {h : Heap} (X : K.In h) (G0 : h.Ns mainGlobals mg) (c0 : SaysC fal fnl cns tbs w K) : Txt K mg w where
  nob := ⟨fun x hx => by
    exact nob_at X G0 c0.e 46 (fun i y e => by
      match i, e with
      | 0, e => cases e; rfl
      | 1, e => cases e; rfl
      | 2, e => cases e; rfl
      | 3, e => cases e; rfl
      | 4, e => cases e; rfl
      | 5, e => cases e; rfl
      | 6, e => cases e; rfl
      | 7, e => cases e; rfl
      | 8, e => cases e; rfl
      | 9, e => cases e; rfl
      | 10, e => cases e; rfl
      | 11, e => cases e; rfl
      | 12, e => cases e; rfl
      | 13, e => cases e; rfl
      | 14, e => cases e; rfl
      | 15, e => cases e; rfl
      | 16, e => cases e; rfl
      | 17, e => cases e; rfl
      | 18, e => cases e; rfl
      | 19, e => cases e; rfl
      | 20, e => cases e; rfl
      | n + 21, e => cases e) hx⟩
  gok := fun i x d hx hG => by
    match i, hx, hG with
    | 0, hx, hG => cases hx; cases hG; exact conK_ok X G0 (conS (c0.con 0 (by rfl)))
    | 1, hx, hG => cases hx; cases hG; exact conK_ok X G0 (conS (c0.con 1 (by rfl)))
    | 2, hx, hG => cases hx; cases hG; exact conK_ok X G0 (conS (c0.con 2 (by rfl)))
    | 3, hx, hG => cases hx; cases hG; exact conK_ok X G0 (conS (c0.con 3 (by rfl)))
    | 4, hx, hG => cases hx; cases hG; exact conK_ok X G0 (conS (c0.con 4 (by rfl)))
    | 5, hx, hG => cases hx; cases hG; exact conK_ok X G0 (conS (c0.con 5 (by rfl)))
    | 6, hx, hG => cases hx; cases hG; exact conK_ok X G0 (conS (c0.con 6 (by rfl)))
    | 7, hx, hG => cases hx; cases hG; exact conK_ok X G0 (conS (c0.con 7 (by rfl)))
    | n + 8, hx, hG => cases hx
  t_is_integer := fnTxt_of X G0 (c0.e.fact 0 (by rfl)) (c0.e.fact 1 (by rfl)) (c0.e.def_ 0 (d := d_is_integer) (by rfl))
    (fun _ _ _ _ _ _ us hl => match us, hl with | [_, _], _ => rfl)
    (fun _ _ _ _ _ _ q hq => nomatch hq)
  t_is_run := fnTxt_of X G0 (c0.e.fact 2 (by rfl)) (c0.e.fact 3 (by rfl)) (c0.e.def_ 1 (d := d_is_run) (by rfl))
    (fun _ _ _ _ _ _ us hl => match us, hl with | [_, _], _ => rfl)
    (fun _ _ _ _ _ _ q hq => nomatch hq)
  t_are_runs := fnTxt_of X G0 (c0.e.fact 4 (by rfl)) (c0.e.fact 5 (by rfl)) (c0.e.def_ 2 (d := d_are_runs) (by rfl))
    (fun _ _ _ _ _ _ us hl => match us, hl with | [_, _], _ => rfl)
    (fun _ _ _ _ _ _ q hq => nomatch hq)
  t_is_city := fnTxt_of X G0 (c0.e.fact 6 (by rfl)) (c0.e.fact 7 (by rfl)) (c0.e.def_ 3 (d := d_is_city) (by rfl))
    (fun _ _ _ _ _ _ us hl => match us, hl with | [_], _ => rfl)
    (fun _ _ _ _ _ _ q hq => nomatch hq)
  t_read_number := fnTxt_of X G0 (c0.e.fact 8 (by rfl)) (c0.e.fact 9 (by rfl)) (c0.e.def_ 4 (d := d_read_number) (by rfl))
    (fun _ _ _ _ _ _ us hl => match us, hl with | [_], _ => rfl)
    (fun _ _ _ _ _ _ q hq => nomatch hq)
  t_read_run := fnTxt_of X G0 (c0.e.fact 10 (by rfl)) (c0.e.fact 11 (by rfl)) (c0.e.def_ 5 (d := d_read_run) (by rfl))
    (fun _ _ _ _ _ _ us hl => match us, hl with | [_], _ => rfl)
    (fun _ _ _ _ _ _ q hq => nomatch hq)
  t_read_point := fnTxt_of X G0 (c0.e.fact 12 (by rfl)) (c0.e.fact 13 (by rfl)) (c0.e.def_ 6 (d := d_read_point) (by rfl))
    (fun _ _ _ _ _ _ us hl => match us, hl with | [_], _ => rfl)
    (fun _ _ _ _ _ _ q hq => nomatch hq)
  t_is_path := fnTxt_of X G0 (c0.e.fact 14 (by rfl)) (c0.e.fact 15 (by rfl)) (c0.e.def_ 7 (d := d_is_path) (by rfl))
    (fun _ _ _ _ _ _ us hl => match us, hl with | [_], _ => rfl)
    (fun _ _ _ _ _ _ q hq => nomatch hq)
  t_format_runs := fnTxt_of X G0 (c0.e.fact 16 (by rfl)) (c0.e.fact 17 (by rfl)) (c0.e.def_ 8 (d := d_format_runs) (by rfl))
    (fun _ _ _ _ _ _ us hl => match us, hl with | [_], _ => rfl)
    (fun _ _ _ _ _ _ q hq => nomatch hq)
  t_format_city := fnTxt_of X G0 (c0.e.fact 18 (by rfl)) (c0.e.fact 19 (by rfl)) (c0.e.def_ 9 (d := d_format_city) (by rfl))
    (fun _ _ _ _ _ _ us hl => match us, hl with | [_], _ => rfl)
    (fun _ _ _ _ _ _ q hq => by
      have hq : q ∈ [((0, ["city"], [0]) : Nat × List Str × List Nat)] := hq
      simp only [List.mem_cons, List.not_mem_nil, or_false] at hq
      rcases hq with rfl
      · intro s us ws zs h1 h2 h3
        match us, ws, h1, h2, h3 with
        | [], [_], _, _, h3 => cases h3; exact .of_eq rfl)
  t_format_drive := fnTxt_of X G0 (c0.e.fact 20 (by rfl)) (c0.e.fact 21 (by rfl)) (c0.e.def_ 10 (d := d_format_drive) (by rfl))
    (fun _ _ _ _ _ _ us hl => match us, hl with | [_], _ => rfl)
    (fun _ _ _ _ _ _ q hq => by
      have hq : q ∈ [((0, ["drive"], [0]) : Nat × List Str × List Nat)] := hq
      simp only [List.mem_cons, List.not_mem_nil, or_false] at hq
      rcases hq with rfl
      · intro s us ws zs h1 h2 h3
        match us, ws, h1, h2, h3 with
        | [], [_], _, _, h3 => cases h3; exact .of_eq rfl)
  t_parse_city := fnTxt_of X G0 (c0.e.fact 22 (by rfl)) (c0.e.fact 23 (by rfl)) (c0.e.def_ 11 (d := d_parse_city) (by rfl))
    (fun _ _ _ _ _ _ us hl => match us, hl with | [_], _ => rfl)
    (fun _ _ _ _ _ _ q hq => by
      have hq : q ∈ [((0, ["text"], [0]) : Nat × List Str × List Nat)] := hq
      simp only [List.mem_cons, List.not_mem_nil, or_false] at hq
      rcases hq with rfl
      · intro s us ws zs h1 h2 h3
        match us, ws, h1, h2, h3 with
        | [], [_], _, _, h3 => cases h3; exact .of_eq rfl)
  t_parse_drive := fnTxt_of X G0 (c0.e.fact 24 (by rfl)) (c0.e.fact 25 (by rfl)) (c0.e.def_ 12 (d := d_parse_drive) (by rfl))
    (fun _ _ _ _ _ _ us hl => match us, hl with | [_], _ => rfl)
    (fun _ _ _ _ _ _ q hq => by
      have hq : q ∈ [((0, ["text"], [0]) : Nat × List Str × List Nat)] := hq
      simp only [List.mem_cons, List.not_mem_nil, or_false] at hq
      rcases hq with rfl
      · intro s us ws zs h1 h2 h3
        match us, ws, h1, h2, h3 with
        | [], [_], _, _, h3 => cases h3; exact .of_eq rfl)
  t__law_source := fnTxt_of X G0 (c0.e.fact 26 (by rfl)) (c0.e.fact 27 (by rfl)) (c0.e.def_ 13 (d := d__law_source) (by rfl))
    (fun _ _ _ _ _ _ us hl => match us, hl with | [_, _], _ => rfl)
    (fun _ _ _ _ _ _ q hq => nomatch hq)
  t__law_draw := fnTxt_of X G0 (c0.e.fact 28 (by rfl)) (c0.e.fact 29 (by rfl)) (c0.e.def_ 14 (d := d__law_draw) (by rfl))
    (fun _ _ _ _ _ _ us hl => match us, hl with | [_, _], _ => rfl)
    (fun _ _ _ _ _ _ q hq => nomatch hq)
  t__law_runs := fnTxt_of X G0 (c0.e.fact 30 (by rfl)) (c0.e.fact 31 (by rfl)) (c0.e.def_ 15 (d := d__law_runs) (by rfl))
    (fun _ _ _ _ _ _ us hl => match us, hl with | [_, _, _, _], _ => rfl)
    (fun _ _ _ _ _ _ q hq => nomatch hq)
  t__law_town := fnTxt_of X G0 (c0.e.fact 32 (by rfl)) (c0.e.fact 33 (by rfl)) (c0.e.def_ 16 (d := d__law_town) (by rfl))
    (fun _ _ _ _ _ _ us hl => match us, hl with | [_, _, _], _ => rfl)
    (fun _ _ _ _ _ _ q hq => nomatch hq)
  t__law_note := fnTxt_of X G0 (c0.e.fact 34 (by rfl)) (c0.e.fact 35 (by rfl)) (c0.e.def_ 17 (d := d__law_note) (by rfl))
    (fun _ _ _ _ _ _ us hl => match us, hl with | [_], _ => rfl)
    (fun _ _ _ _ _ _ q hq => nomatch hq)
  t__law_line := fnTxt_of X G0 (c0.e.fact 36 (by rfl)) (c0.e.fact 37 (by rfl)) (c0.e.def_ 18 (d := d__law_line) (by rfl))
    (fun _ _ _ _ _ _ us hl => match us, hl with | [_], _ => rfl)
    (fun _ _ _ _ _ _ q hq => nomatch hq)
  t__law_both_ways := fnTxt_of X G0 (c0.e.fact 38 (by rfl)) (c0.e.fact 39 (by rfl)) (c0.e.def_ 19 (d := d__law_both_ways) (by rfl))
    (fun _ _ _ _ _ _ us hl => match us, hl with | [_, _], _ => rfl)
    (fun _ _ _ _ _ _ q hq => nomatch hq)
  t__law_point := fnTxt_of X G0 (c0.e.fact 40 (by rfl)) (c0.e.fact 41 (by rfl)) (c0.e.def_ 20 (d := d__law_point) (by rfl))
    (fun _ _ _ _ _ _ us hl => match us, hl with | [_, _], _ => rfl)
    (fun _ _ _ _ _ _ q hq => nomatch hq)
  t__law_long_right := fnTxt_of X G0 (c0.e.fact 42 (by rfl)) (c0.e.fact 43 (by rfl)) (c0.e.def_ 21 (d := d__law_long_right) (by rfl))
    (fun _ _ _ _ _ _ us hl => match us, hl with | [], _ => rfl)
    (fun _ _ _ _ _ _ q hq => by
      have hq : q ∈ [((0, [], []) : Nat × List Str × List Nat)] := hq
      simp only [List.mem_cons, List.not_mem_nil, or_false] at hq
      rcases hq with rfl
      · intro s us ws zs h1 h2 h3
        match us, ws, h1, h2, h3 with
        | [], [], _, _, h3 => cases h3; exact .of_eq rfl)
  t_law := fnTxt_of X G0 (c0.e.fact 44 (by rfl)) (c0.e.fact 45 (by rfl)) (c0.e.def_ 22 (d := d_law) (by rfl))
    (fun _ _ _ _ _ _ us hl => match us, hl with | [_], _ => rfl)
    (fun _ _ _ _ _ _ q hq => nomatch hq)
  dig := conXd (c0.con 8 (by rfl))
  x_CityError := exTxt_of X G0 (c0.e.fact 67 (by rfl)) (c0.e.fact 68 (by rfl))
  x_InvalidCity := exTxt_of X G0 (c0.e.fact 69 (by rfl)) (c0.e.fact 70 (by rfl))
  x_InvalidDrive := exTxt_of X G0 (c0.e.fact 71 (by rfl)) (c0.e.fact 72 (by rfl))
  x_InvalidText := exTxt_of X G0 (c0.e.fact 73 (by rfl)) (c0.e.fact 74 (by rfl))
end CC
open PySem PySem.W PySem.Calls PyProof.Rows
theorem PySem.Challenge.cw_cornercity_k41_texts_both_ways_holds : PySem.Challenge.rw_cornercity_k41_texts_both_ways.Holds := by
  refine CC.head_done ?_
  refine CC.walk_e (l := PySem.Challenge.rw_cornercity_k41_texts_both_ways) (n := 63) (k := 7) (x := "law") (kw := CC.kwt CC.f_law) (cs := CC.CF 7 CC.f_law) rfl (by decide) CC.head_defs CC.head_name ⟨rfl, by decide, by decide⟩ ?F CC.law_thm
  intro w mg h Y G
  obtain ⟨K, KX, c⟩ := Y
  exact ⟨K, KX, fun base Xb Gb => (CC.calls_ok (CC.txt_of KX G c) 7).fn CC.f_law "law" CC.fd_law rfl rfl⟩
