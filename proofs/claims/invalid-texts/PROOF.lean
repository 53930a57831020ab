import PyProof.Rows.All
import Wide.All
import OpenK.AllK
import Wide.FinOn
import KE.KStateDown
import PySem.Challenge.RW_cornercity_k42_invalid_texts
import HandS.Text
import HandS.ForMost
import HandS.ForExc
import HandS.IsInst
import HandS.Style
import HandS.TupAny
import HandS.Wide
import HandS.Deep
import KE.KeyNested
import HandS.ExcValue
import HandS.ExcCtx
import HandS.SetBool
import HandS.Dict
import HandS.TupLen
import HandS.Zip
import HandS.Flow
import HandS.More
import PyProof.SliceStr2
import KE.GoesMore
import HandS.NoneIn
import HandS.FStrTup
import HandS.Head0
import HandS.Head1
import HandS.Head2
import HandS.HeadHook1
import HandS.HeadHook3
import HandS.TryOnly
import HandS.ExcIs
import KE.KExcIs
import HandS.ExcInit
import HandS.ExcField
import HandS.HotCalls
import HandS.Hot
import HandS.SetKeys
import HandS.MapSum
import PyProof.DictWalks
import PyProof.SumAny
import HandS.RaiseMore
import KE.KDictDisplayH
import KE.KDictKeyed
import HandS.TupSets
import KE.KDictList
import HandS.SortInts
import HandS.DictComp
import HandS.Sort
import PyProof.LongRange
import KE.SortData
import HandS.Conv
import HandS.MakeKw
import PyProof.FactsLen
import KE.DataCmp
import KE.KDictPairs
import HandS.Set
import KE.KIntText
import HandS.Replace
import PyProof.StrLawsRepr
set_option Elab.async false
set_option linter.all false
set_option maxRecDepth 100000
set_option maxHeartbeats 4000000
namespace CC
open PySem PySem.Spec PyProof.Rows L2
inductive D where
  | non | bl (b : Bool) | int (i : Int) | str (x : Str) | tup (ds : List D) | loc (n : Nat) | ty (t : String) | fn (x : Str)
  | fl (ds : List D) | fd (ks : List Key) (ds : List D) | exn (c : Nat) (ps : List D) | cls (c : Nat)
  | fm (ks : List NestedKey) (ds : List D) | bd (ds : List D)
  deriving Inhabited
def D.lt (k : Nat) : D → Bool
  | .loc n => decide (n < k)
  | .tup ds => ds.attach.all fun ⟨d, _⟩ => d.lt k
  | .fl ds => ds.attach.all fun ⟨d, _⟩ => d.lt k
  | .fd _ ds => ds.attach.all fun ⟨d, _⟩ => d.lt k
  | .exn _ ds => ds.attach.all fun ⟨d, _⟩ => d.lt k
  | .fm _ ds => ds.attach.all fun ⟨d, _⟩ => d.lt k
  | .bd ds => ds.attach.all fun ⟨d, _⟩ => d.lt k
  | _ => true
abbrev ltL (k : Nat) (ds : List D) : Bool := ds.all fun d => d.lt k
@[simp] theorem lt_loc {k n : Nat} : (D.loc n).lt k = decide (n < k) := by unfold D.lt; rfl
@[simp] theorem lt_tup {k : Nat} {ds : List D} : (D.tup ds).lt k = ltL k ds := by rw [D.lt]; simp
@[simp] theorem lt_fl {k : Nat} {ds : List D} : (D.fl ds).lt k = ltL k ds := by rw [D.lt]; simp
@[simp] theorem lt_fd {k : Nat} {ks : List Key} {ds : List D} : (D.fd ks ds).lt k = ltL k ds := by rw [D.lt]; simp
@[simp] theorem lt_exn {k c : Nat} {ds : List D} : (D.exn c ds).lt k = ltL k ds := by rw [D.lt]; simp
@[simp] theorem lt_fm {k : Nat} {ks : List NestedKey} {ds : List D} : (D.fm ks ds).lt k = ltL k ds := by rw [D.lt]; simp
@[simp] theorem lt_bd {k : Nat} {ds : List D} : (D.bd ds).lt k = ltL k ds := by rw [D.lt]; simp
@[simp] theorem lt_cls {k c : Nat} : (D.cls c).lt k = true := by unfold D.lt; rfl
@[simp] theorem lt_non {k : Nat} : D.non.lt k = true := by unfold D.lt; rfl
@[simp] theorem lt_bl {k : Nat} {b : Bool} : (D.bl b).lt k = true := by unfold D.lt; rfl
@[simp] theorem lt_int {k : Nat} {b : Int} : (D.int b).lt k = true := by unfold D.lt; rfl
@[simp] theorem lt_str {k : Nat} {b : Str} : (D.str b).lt k = true := by unfold D.lt; rfl
@[simp] theorem lt_ty {k : Nat} {b : String} : (D.ty b).lt k = true := by unfold D.lt; rfl
@[simp] theorem lt_fn {k : Nat} {b : Str} : (D.fn b).lt k = true := by unfold D.lt; rfl
inductive SO where
  | lst (ds : List D) | frz (ds : List D) | dic (kvs : List (Key × D)) | fdic (kvs : List (Key × D)) | dn (kvs : List (NestedKey × D)) | fdn (kvs : List (NestedKey × D))
  | ins (c : Nat) (fs : List (Str × D))
abbrev Sto := List SO
def SO.lt (k : Nat) : SO → Bool
  | .lst ds => ltL k ds
  | .frz ds => ltL k ds
  | .dic kvs => ltL k (kvs.map (·.2))
  | .fdic kvs => ltL k (kvs.map (·.2))
  | .dn kvs => ltL k (kvs.map (·.2))
  | .fdn kvs => ltL k (kvs.map (·.2))
  | .ins _ fs => ltL k (fs.map (·.2))
def keepS (S S' : Sto) : Prop := ∀ (i : Nat) (so : SO), i < S.length → S'[i]? = some so → S[i]? = some so ∨ so.lt S.length = true
open Classical in
noncomputable def cutS (S : Sto) (b : Bool) (S' : Sto) : Sto := if b = true ∧ keepS S S' then S'.take S.length else S'
abbrev Env := List (Option D)
inductive R (α : Type) where
  | ok (a : α) (S : Sto) | exc (c : Nat) (p : List D) (S : Sto) | bad
def R.bind {α β : Type} (r : R α) (f : α → Sto → R β) : R β :=
  match r with
  | .ok a S => f a S
  | .exc c p S => .exc c p S
  | .bad => .bad
noncomputable def trim (S : Sto) : R D → R D
  | .ok d S' => .ok d (cutS S (d.lt S.length) S')
  | .exc c p S' => .exc c p (cutS S (ltL S.length p) S')
  | .bad => .bad
def R.opt {α : Type} (o : Option α) (S : Sto) : R α := match o with
  | some a => .ok a S
  | none => .bad
@[simp] theorem R.bind_ok {α β : Type} (a : α) (S : Sto) (f : α → Sto → R β) : (R.ok a S).bind f = f a S := rfl
@[simp] theorem R.bind_exc {α β : Type} (c : Nat) (p : List D) (S : Sto) (f : α → Sto → R β) : (R.exc c p S : R α).bind f = .exc c p S := rfl
@[simp] theorem R.bind_bad {α β : Type} (f : α → Sto → R β) : (R.bad : R α).bind f = .bad := rfl
@[simp] theorem R.opt_some {α : Type} (a : α) (S : Sto) : R.opt (some a) S = .ok a S := rfl
abbrev CallSem := Nat → List D → Sto → R D
inductive Src where
  | lst (n : Nat) | ds (l : List D) | zip (n k : Nat) | enum (n : Nat) | zipF (n : Nat) (l : List D)
inductive Bi where
  | len | abs | sum | min | max | all | any | sorted | repr | int | str | list | tuple | set | isinst | isx | listn | sortd
  deriving DecidableEq
inductive Mt where
  | append | pop | popAt | insert | reverse | extend
  deriving DecidableEq
inductive Xp where
  | var (i : Nat) | glo (x : Nat) | non | bl (b : Bool) | int (i : Int) | str (x : Str) | tyc (t : String)
  | bin (op : Operator) (a b : Xp) | neg (a : Xp) | nt (a : Xp) | and (a b : Xp) | or (a b : Xp)
  | cmp (op : CmpOp) (a b : Xp) | cmp2 (op op' : CmpOp) (a b c : Xp) | ife (c a b : Xp)
  | call (f : Nat) (es : Xp) | callk (f : Nat) (es ks : Xp) (perm : List Nat) | bi (b : Bi) (es : Xp) | mt (m : Mt) (o es : Xp)
  | ix (a b : Xp) | sl (a lo hi : Xp) | rev (a : Xp) | tup (es : Xp) | lst (es : Xp)
  | lc (it tg elt cond : Xp) (vs : List Nat) | lc2 (it tg cond it1 tg1 cond1 elt : Xp) (vs vs1 : List Nat)
  | frzv (a : Xp) | gdx (t : List (Str × D)) (e : Xp) | dnew | dget (o k v : Xp) | dsetd (o k v : Xp) | sumv (o : Xp) | lset (o : Xp) | lix (o e : Xp)
  | callv (t : List (Str × Nat)) (f es : Xp) | callvk (t : List (Str × Nat)) (f es ks : Xp) (perm : List Nat)
  | dgetn (o k v : Xp) | dksn (o : Xp) | dd (es : Xp) | dnn | ddn (es : Xp) | xfld (f : Str) (a : Xp) | mkx (c : Nat) (es : Xp)
  | itr (a : Xp) | dit (o : Xp) | dks (o : Xp) | dvs (o : Xp) | rng1 (a : Xp) | rng2 (a b : Xp) | zip2 (a b : Xp) | enum (a : Xp)
  | prm (f : List D → Sto → R D) (es : Xp) | itp (f : List D → Sto → R Src) (es : Xp)
  | fld (f : Str) (o : Xp) | meth (m : Str) (c i : Nat) (o es : Xp) | mko (c i : Nat) (es : Xp) | lcd (it tg k v cond : Xp) (vs : List Nat)
  | nil | cons (a b : Xp)
def truth (x : D) (S : Sto) : Option Bool := match x with
  | .non => some false
  | .bl b => some b
  | .int i => some (i != 0)
  | .tup ds => some (!ds.isEmpty)
  | .fl ds => some (!ds.isEmpty)
  | .loc n => match S[n]? with
    | some (.lst ds) => some (!ds.isEmpty)
    | some (.frz ds) => some (!ds.isEmpty)
    | _ => none
  | _ => none
def lstAt (S : Sto) (n : Nat) : Option (List D) := match S[n]? with
  | some (.lst ds) => some ds
  | some (.frz ds) => some ds
  | _ => none
def lstD (S : Sto) : D → Option (List D)
  | .loc n => lstAt S n
  | .fl ds => some ds
  | _ => none
def sqD (S : Sto) : D → Option (List D)
  | .tup ds => some ds
  | x => lstD S x
def lstM (S : Sto) : D → Option (List D)
  | .loc n => match S[n]? with
    | some (.lst ds) => some ds
    | _ => none
  | .fl ds => some ds
  | _ => none
def lstW (S : Sto) : D → Option (List D)
  | .loc n => match S[n]? with
    | some (.lst ds) => some ds
    | _ => none
  | _ => none
def frzD (x : D) (S : Sto) : R D := match x with
  | .loc n => match S[n]? with
    | some (.lst ds) => .ok (.fl ds) (S.set n (.frz ds))
    | some (.dic kvs) => .ok (.fd (kvs.map (·.1)) (kvs.map (·.2))) (S.set n (.fdic kvs))
    | some (.dn kvs) => .ok (.fm (kvs.map (·.1)) (kvs.map (·.2))) (S.set n (.fdn kvs))
    | _ => .ok x S
  | _ => .ok x S
def dicAt (S : Sto) (n : Nat) : Option (List (Key × D)) := match S[n]? with
  | some (.dic kvs) => some kvs
  | some (.fdic kvs) => some kvs
  | _ => none
def dnAt (S : Sto) (n : Nat) : Option (List (NestedKey × D)) := match S[n]? with
  | some (.dn kvs) => some kvs
  | some (.fdn kvs) => some kvs
  | _ => none
mutual
def kN : D → Option NestedKey
  | .non => some .none
  | .int i => some (.num i)
  | .str x => some (.text x)
  | .tup ds => (kNs ds).map .tup
  | _ => none
def kNs : List D → Option (List NestedKey)
  | [] => some []
  | d :: r => (kN d).bind fun k => (kNs r).map (k :: ·)
end
def kT (d : D) : Option NestedKey := match d with
  | .tup ds => (kNs ds).bind fun ks => if decide ((NestedKey.tup ks).depth ≤ 8) then some (.tup ks) else none
  | _ => none
def kTs : List D → Option (List NestedKey)
  | [] => some []
  | d :: r => (kT d).bind fun k => (kTs r).map (k :: ·)
def kB (d : D) : Option NestedKey := match d with
  | .tup [.int x, .bl b] => some (.tup [.num x, .num (if b then 1 else 0)])
  | _ => none
def kBs : List D → Option (List NestedKey)
  | [] => some []
  | d :: r => (kB d).bind fun k => (kBs r).map (k :: ·)
def flatB : NestedKey → Bool
  | .tup ks => ks.all fun k => match k with
    | .num _ => true
    | .text _ => true
    | _ => false
  | _ => false
def uds : List NestedKey → List NestedKey
  | [] => []
  | k :: r => if k ∈ r then uds r else k :: uds r
def lsetL (ds : List D) : Option Nat := (kTs ds).bind fun ks => if ks.all flatB && decide (ks.length < 64) then some (uds ks).length else none
mutual
def nD : NestedKey → D
  | .none => .non
  | .num i => .int i
  | .text x => .str x
  | .tup ks => .tup (nDs ks)
def nDs : List NestedKey → List D
  | [] => []
  | k :: ks => nD k :: nDs ks
end
def kD : D → Option Key
  | .int i => some (.inl i)
  | .str x => some (.inr x)
  | _ => none
def valA {κ : Type} [DecidableEq κ] (kvs : List (κ × D)) (k : κ) : Option D := (kvs.find? fun kv => decide (kv.1 = k)).map (·.2)
def putA {κ : Type} [DecidableEq κ] (kvs : List (κ × D)) (k : κ) (d : D) : List (κ × D) := if (kvs.any fun kv => decide (kv.1 = k)) = true then kvs.map (fun kv => if kv.1 = k then (kv.1, d) else kv) else kvs ++ [(k, d)]
def isLst (x : D) (S : Sto) : Bool := match x with
  | .loc n => (lstAt S n).isSome
  | _ => false
def lenL (o : Option (List D)) (p : Option (List (Key × D))) (q : Option (List (NestedKey × D))) : Option Nat := match o with
  | some ds => some ds.length
  | none => match p with
    | some kvs => some kvs.length
    | none => q.map List.length
def ixL (o : Option (List D)) (p : Option (List (Key × D))) (q : Option (List (NestedKey × D))) (y : D) : Option D := match o with
  | some ds => match y with
    | .int i => atI ds i
    | _ => none
  | none => match p with
    | some kvs => (kD y).bind fun k => valA kvs k
    | none => q.bind fun kvs => (kT y).bind fun k => valA kvs k
def lenD (x : D) (S : Sto) : Option Nat := match x with
  | .fl ds => some ds.length
  | .fd ks ds => some (ks.zip ds).length
  | .str z => if z.length ≤ sizeLine then some z.length else none
  | .tup ds => some ds.length
  | .loc n => lenL (lstAt S n) (dicAt S n) (dnAt S n)
  | .fm ks ds => some (ks.zip ds).length
  | _ => none
def toP (S : Sto) : Nat → D → Option PyData
  | _, .non => some .none
  | _, .bl b => some (.bool b)
  | _, .int i => some (.int i)
  | _, .str x => some (.str x)
  | n + 1, .tup ds => (ds.mapM (toP S n)).map .tuple
  | n + 1, .loc k => (lstAt S k).bind fun ds => (ds.mapM (toP S n)).map .list
  | n + 1, .fl ds => (ds.mapM (toP S n)).map .list
  | _, _ => none
def eqD (x y : D) (S : Sto) : Option Bool :=
  (toP S 50 x).bind fun p => (toP S 50 y).bind fun q => if SeqAt.shaped p && SeqAt.shaped q then some (PyData.eqv p q) else none
mutual
def shB : PyData → Nat
  | .none => 4
  | .bool _ => 5
  | .int i => i.natAbs.log2 + 3
  | .str x => (reprText x).length
  | .list xs => shBs xs + 3
  | .tuple xs => shBs xs + 3
  | .dict _ => 2
def shBs : List PyData → Nat
  | [] => 0
  | x :: xs => shB x + 2 + shBs xs
end
def toQ (S : Sto) : Nat → D → Option PyData
  | _, .non => some .none
  | _, .bl b => some (.bool b)
  | _, .int i => some (.int i)
  | _, .str x => some (.str x)
  | _, .fd [] [] => some (.dict [])
  | n + 1, .tup ds => (ds.mapM (toQ S n)).map .tuple
  | n + 1, .fl ds => (ds.mapM (toQ S n)).map .list
  | n + 1, .loc k => match lstAt S k with
    | some ds => (ds.mapM (toQ S n)).map .list
    | none => match dicAt S k with
      | some [] => some (.dict [])
      | _ => none
  | _, _ => none
mutual
def dic0 : PyData → Bool
  | .none => true
  | .bool _ => true
  | .int _ => true
  | .str _ => true
  | .list xs => dic0s xs
  | .tuple xs => dic0s xs
  | .dict kvs => kvs.isEmpty
def dic0s : List PyData → Bool
  | [] => true
  | x :: xs => dic0 x && dic0s xs
end
def repOk (p : PyData) : Bool := p.showable && dic0 p && decide (p.depth ≤ 64) && decide (shB p ≤ sizeLine)
def repP (o : Option PyData) : Option D := o.bind fun p => if repOk p then some (.str p.shown) else none
def repD (x : D) (S : Sto) : Option D := repP (toQ S 50 x)
def flatD : D → Bool
  | .non => true
  | .bl _ => true
  | .int _ => true
  | .str _ => true
  | _ => false
def feq : D → D → Bool
  | .non, .non => true
  | .bl a, .bl b => a == b
  | .bl a, .int b => (if a then 1 else 0) == b
  | .int a, .bl b => a == (if b then 1 else 0)
  | .int a, .int b => a == b
  | .str a, .str b => a == b
  | _, _ => false
def inSeq (x : D) (ds : List D) : Option Bool := if flatD x && ds.all flatD then some (ds.any fun y => feq y x) else none
def inDeep (x y : D) (S : Sto) : Option Bool :=
  (toP S 50 x).bind fun p => (toP S 50 y).bind fun q => match q with
    | .list ds => if SeqAt.shaped p && SeqAt.shaped (.list ds) then some (ds.any fun z => PyData.eqv z p) else none
    | _ => none
def inD (x y : D) (S : Sto) : Option Bool := match y with
  | .tup ds => inSeq x ds
  | .loc n => match dicAt S n with
    | some kvs => (kD x).map fun k => (valA kvs k).isSome
    | none => match dnAt S n with
      | some kvs => (kT x).map fun k => (valA kvs k).isSome
      | none => inDeep x (.loc n) S
  | .fl ds => inDeep x (.fl ds) S
  | .fd ks ds => (kD x).map fun k => (valA (ks.zip ds) k).isSome
  | .fm ks ds => (kT x).map fun k => (valA (ks.zip ds) k).isSome
  | .str z => match x with
    | .str c => some (!(Builtin.Str.occurrences z c 0 z.length 1).isEmpty)
    | _ => none
  | _ => none
def isNon : D → Bool
  | .non => true
  | _ => false
def lenNe (x y : D) (S : Sto) : Option Bool := (lstD S x).bind fun ds => (lstD S y).bind fun es => if ds.length = es.length then none else some false
def qEq (x y : D) (S : Sto) : Option Bool := match x, y with
  | .int i, .int j => some (i == j)
  | .str a, .str b => some (a == b)
  | x, y => match eqD x y S with
    | some b => some b
    | none => lenNe x y S
def cmpD (op : CmpOp) (x y : D) (S : Sto) : Option Bool := match op with
  | .Eq => qEq x y S
  | .NotEq => (qEq x y S).map (!·)
  | .Lt => match x, y with
    | .int i, .int j => some (decide (i < j))
    | _, _ => none
  | .LtE => match x, y with
    | .int i, .int j => some (decide (i ≤ j))
    | _, _ => none
  | .Gt => match x, y with
    | .int i, .int j => some (decide (j < i))
    | _, _ => none
  | .GtE => match x, y with
    | .int i, .int j => some (decide (j ≤ i))
    | _, _ => none
  | .In => inD x y S
  | .NotIn => (inD x y S).map (!·)
  | .Is => match y with
    | .non => some (isNon x)
    | _ => none
  | .IsNot => match y with
    | .non => some (!isNon x)
    | _ => none
def mulOk (i j : Int) : Bool := decide (i.natAbs.log2 + j.natAbs.log2 < 1000000)
def powOk (i j : Int) : Bool := decide (0 ≤ j) && decide (j ≤ 1000) && decide (i.natAbs.log2 < 1000)
def divOk (j : Int) : Bool := decide (0 < j) && decide (j.natAbs.log2 < 9000)
def mk (so : SO) (S : Sto) : R D := .ok (.loc S.length) (S ++ [so])
def catD (o p : Option (List D)) (S : Sto) : R D := match o, p with
  | some a, some b => if a.length + b.length ≤ sizeLine then mk (.lst (a ++ b)) S else .bad
  | _, _ => .bad
def repL (o : Option (List D)) (k : Int) (S : Sto) : R D := match o with
  | some a => if decide (-(2 ^ 63) ≤ k) && decide (k < 2 ^ 63) && decide (a.length * k.toNat ≤ sizeLine) then mk (.lst (List.replicate k.toNat a).flatten) S else .bad
  | _ => .bad
def binD (op : Operator) (x y : D) (S : Sto) : R D := match op with
  | .Add => match x, y with
    | .int i, .int j => .ok (.int (i + j)) S
    | .str a, .str b => if a.length + b.length ≤ sizeLine then .ok (.str (a ++ b)) S else .bad
    | .tup a, .tup b => if a.length + b.length ≤ sizeLine then .ok (.tup (a ++ b)) S else .bad
    | x, y => catD (lstM S x) (lstM S y) S
  | .Sub => match x, y with
    | .int i, .int j => .ok (.int (i - j)) S
    | _, _ => .bad
  | .Mult => match x, y with
    | .int i, .int j => if mulOk i j then .ok (.int (i * j)) S else .bad
    | x, .int k => repL (lstW S x) k S
    | _, _ => .bad
  | .FloorDiv => match x, y with
    | .int i, .int j => if divOk j then .ok (.int (i / j)) S else .bad
    | _, _ => .bad
  | .Mod => match x, y with
    | .int i, .int j => if decide (0 < j) then .ok (.int (i % j)) S else .bad
    | _, _ => .bad
  | .Pow => match x, y with
    | .int i, .int j => if powOk i j then .ok (.int (i ^ j.toNat)) S else .bad
    | _, _ => .bad
  | _ => .bad
def augD (op : Operator) (x y : D) (S : Sto) : R D := match op with
  | .Add => match x, y with
    | .int i, .int j => .ok (.int (i + j)) S
    | .str a, .str b => if a.length + b.length ≤ sizeLine then .ok (.str (a ++ b)) S else .bad
    | .loc n, y => match S[n]?, lstM S y with
      | some (.lst a), some b => if a.length + b.length ≤ sizeLine then .ok (.loc n) (S.set n (.lst (a ++ b))) else .bad
      | _, _ => .bad
    | _, _ => .bad
  | .Sub => match x, y with
    | .int i, .int j => .ok (.int (i - j)) S
    | _, _ => .bad
  | .Mult => match x, y with
    | .int i, .int j => if decide (-(2 ^ 64) < j) && decide (j < 2 ^ 64) then .ok (.int (i * j)) S else .bad
    | _, _ => .bad
  | _ => .bad
def ixD (x y : D) (S : Sto) : Option D := match x, y with
  | .tup ds, .int i => atI ds i
  | .loc n, y => ixL (lstAt S n) (dicAt S n) (dnAt S n) y
  | .fl ds, .int i => atI ds i
  | .fd ks ds, y => (kD y).bind fun k => valA (ks.zip ds) k
  | .fm ks ds, y => (kT y).bind fun k => valA (ks.zip ds) k
  | .str z, .int i => if z.length ≤ sizeLine then (atI z.cps.toList i).map fun c => .str ⟨#[c]⟩ else none
  | _, _ => none
def cut {α : Type} (xs : List α) (lo hi : Option Int) : List α := (xs.drop (HT.sIx xs.length 0 lo)).take (HT.sIx xs.length xs.length hi - HT.sIx xs.length 0 lo)
def slD (x : D) (lo hi : Option Int) (S : Sto) : R D := match x with
  | .fl ds => mk (.lst (cut ds lo hi)) S
  | .tup ds => .ok (.tup (cut ds lo hi)) S
  | .loc n => match lstAt S n with
    | some ds => mk (.lst (cut ds lo hi)) S
    | none => .bad
  | .str z => if z.length ≤ sizeLine then .ok (.str (L2.cutS z lo hi)) S else .bad
  | _ => .bad
def revD (x : D) (S : Sto) : R D := match x with
  | .fl ds => mk (.lst ds.reverse) S
  | .loc n => match lstAt S n with
    | some ds => mk (.lst ds.reverse) S
    | none => .bad
  | .tup ds => .ok (.tup ds.reverse) S
  | .str z => if z.length ≤ sizeLine then .ok (.str ⟨z.cps.toList.reverse.toArray⟩) S else .bad
  | _ => .bad
def intsOf : List D → Option (List Int)
  | [] => some []
  | .int i :: r => (intsOf r).map (i :: ·)
  | _ :: _ => none
def blsOf : List D → Option (List Bool)
  | [] => some []
  | .bl b :: r => (blsOf r).map (b :: ·)
  | _ :: _ => none
def tyOfD (x : D) (S : Sto) : Option String := match x with
  | .non => some "NoneType"
  | .bl _ => some "bool"
  | .int _ => some "int"
  | .str _ => some "str"
  | .tup _ => some "tuple"
  | .fl _ => some "list"
  | .fd _ _ => some "dict"
  | .loc n => match S[n]? with
    | some (.lst _) => some "list"
    | some (.dic _) => some "dict"
    | _ => none
  | _ => none
def subTy (a b : String) : Bool := a == b || (a == "bool" && b == "int")
def knownTy (b : String) : Bool := b == "int" || b == "bool" || b == "str" || b == "tuple" || b == "list" || b == "dict"
def isT (a : String) (t : D) : Option Bool := match t with
  | .ty b => if knownTy b then some (subTy a b) else none
  | .tup [.ty b, .ty c] => if knownTy b && knownTy c then some (subTy a b || subTy a c) else none
  | _ => none
def isinst (x t : D) (S : Sto) : Option Bool := (tyOfD x S).bind fun a => isT a t
def leastI : Int → List Int → Int
  | m, [] => m
  | m, x :: r => leastI (if x < m then x else m) r
def mostI : Int → List Int → Int
  | m, [] => m
  | m, x :: r => mostI (if m < x then x else m) r
def subX (c k : Nat) : Bool := c == k || k == 0
def isX1 (c : Nat) : D → Option Bool
  | .cls k => some (subX c k)
  | .ty t => if t = "ValueError" then some true else none
  | _ => none
def isXL (c : Nat) : List D → Option Bool
  | [] => some false
  | t :: r => (isX1 c t).bind fun b => (isXL c r).map fun e => b || e
def isX (c : Nat) : D → Option Bool
  | .tup ts => isXL c ts
  | t => isX1 c t
def dnD (S : Sto) : D → Option (List (NestedKey × D))
  | .loc n => dnAt S n
  | .fm ks ds => some (ks.zip ds)
  | _ => none
def insI (x : Int) : List Int → List Int
  | [] => [x]
  | y :: l => if x ≤ y then x :: y :: l else y :: insI x l
def isort : List Int → List Int
  | [] => []
  | x :: l => insI x (isort l)
def dicD (S : Sto) : D → Option (List (Key × D))
  | .loc n => dicAt S n
  | .fd ks ds => some (ks.zip ds)
  | _ => none
def keysI : List (Key × D) → Option (List Int)
  | [] => some []
  | (.inl i, _) :: r => (keysI r).map (i :: ·)
  | _ :: _ => none
def idxI (y : Int) : List Int → Option Nat
  | [] => none
  | x :: r => if x = y then some 0 else (idxI y r).map (· + 1)
def lixD (x y : D) (S : Sto) : Option D := match y with
  | .int i => ((lstD S x).bind intsOf).bind fun ns => (idxI i ns).map fun (j : Nat) => .int (j : Nat)
  | _ => none
def biD (b : Bi) (xs : List D) (S : Sto) : R D := match b, xs with
  | .len, [x] => R.opt ((lenD x S).map fun n => .int n) S
  | .abs, [.int i] => .ok (.int (if i < 0 then -i else i)) S
  | .max, [.int i, .int j] => .ok (.int (if j > i then j else i)) S
  | .min, [.int i, .int j] => .ok (.int (if j < i then j else i)) S
  | .max, [x] => match (sqD S x).bind intsOf with
    | some (x :: r) => .ok (.int (mostI x r)) S
    | _ => .bad
  | .min, [x] => match (sqD S x).bind intsOf with
    | some (x :: r) => .ok (.int (leastI x r)) S
    | _ => .bad
  | .sum, [x] => R.opt (((lstD S x).bind intsOf).map fun ns => .int ns.sum) S
  | .all, [x] => R.opt (((lstD S x).bind blsOf).map fun bs => .bl (bs.all id)) S
  | .any, [x] => R.opt (((lstD S x).bind blsOf).map fun bs => .bl (bs.any id)) S
  | .int, [.int i] => .ok (.int i) S
  | .str, [.int i] => if decide (i.natAbs.log2 < 1900) then .ok (.str (toString i)) S else .bad
  | .str, [.str x] => .ok (.str x) S
  | .int, [.bl k] => .ok (.int (if k then 1 else 0)) S
  | .sorted, [x] => match (lstD S x).bind intsOf with
    | some ns => mk (.lst ((isort ns).map D.int)) S
    | none => .bad
  | .sortd, [x] => match (dicD S x).bind keysI with
    | some ns => mk (.lst ((isort ns).map D.int)) S
    | none => .bad
  | .listn, [x] => match dnD S x with
    | some kvs => mk (.lst (kvs.map fun kv => nD kv.1)) S
    | none => .bad
  | .list, [.tup ds] => mk (.lst ds) S
  | .list, [x] => match lstD S x with
    | some ds => mk (.lst ds) S
    | none => .bad
  | .tuple, [.tup ds] => .ok (.tup ds) S
  | .tuple, [x] => match lstD S x with
    | some ds => .ok (.tup ds) S
    | none => .bad
  | .repr, [x] => R.opt (repD x S) S
  | .isinst, [x, t] => R.opt ((isinst x t S).map .bl) S
  | .isx, [.exn c _, t] => R.opt ((isX c t).map .bl) S
  | .isx, [x, t] => R.opt ((isinst x t S).map .bl) S
  | _, _ => .bad
def mtL (m : Mt) (ds xs : List D) (S : Sto) : Option (D × List D) := match m, xs with
  | .append, [d] => if ds.length < sizeLine then some (.non, ds ++ [d]) else none
  | .pop, [] => (ds[ds.length - 1]?).map fun y => (y, ds.dropLast)
  | .popAt, [.int i] => if decide (-(2 ^ 63) ≤ i) && decide (i < 2 ^ 63) then (seqIndex? i ds.length).bind fun k => (ds[k]?).map fun y => (y, ds.eraseIdx k) else none
  | .insert, [.int i, y] => if decide (ds.length < sizeLine) && (decide (0 ≤ i) && decide (i < 2 ^ 63)) then some (.non, ds.take i.toNat ++ [y] ++ ds.drop i.toNat) else none
  | .reverse, [] => some (.non, ds.reverse)
  | .extend, [y] => match lstM S y with
    | some zs => if ds.length + zs.length ≤ sizeLine then some (.non, ds ++ zs) else none
    | _ => none
  | _, _ => none
def mtW (n : Nat) (S : Sto) : Option (D × List D) → R D
  | some (r, ys) => .ok r (S.set n (.lst ys))
  | none => .bad
def mtD (m : Mt) (x : D) (xs : List D) (S : Sto) : R D := match x with
  | .loc n => match S[n]? with
    | some (.lst ds) => mtW n S (mtL m ds xs S)
    | _ => .bad
  | _ => .bad
def setIx (x y d : D) (S : Sto) : Option Sto := match x with
  | .loc n => match S[n]? with
    | some (.lst ds) => match y with
      | .int i => (ixN ds.length i).map fun j => S.set n (.lst (ds.set j d))
      | _ => none
    | some (.dic kvs) => (kD y).bind fun k => if kvs.length < sizeLine then some (S.set n (.dic (putA kvs k d))) else none
    | some (.dn kvs) => (kT y).bind fun k => if kvs.length < sizeLine then some (S.set n (.dn (putA kvs k d))) else none
    | _ => none
  | _ => none
def putSl (ds es : List D) (lo hi : Option Int) : List D := ds.take (HT.sIx ds.length 0 lo) ++ es ++ ds.drop (max (HT.sIx ds.length 0 lo) (HT.sIx ds.length ds.length hi))
def setSl (x : D) (lo hi : Option Int) (d : D) (S : Sto) : Option Sto := match x, d with
  | .loc n, .loc k => match S[n]?, S[k]? with
    | some (.lst ds), some (.lst es) => if n ≠ k ∧ ds.length + es.length ≤ sizeLine then some (S.set n (.lst (putSl ds es lo hi))) else none
    | _, _ => none
  | _, _ => none
def kDi : Key → D
  | .inl i => .int i
  | .inr x => .str x
def asDic (x : D) (S : Sto) : Option Nat := match x with
  | .loc n => (dicAt S n).map fun _ => n
  | _ => none
def dgetD (x y z : D) (S : Sto) : Option D := (dicD S x).bind fun kvs => (kD y).map fun k => (valA kvs k).getD z
def dgetnD (x y z : D) (S : Sto) : Option D := (dnD S x).bind fun kvs => (kT y).map fun k => (valA kvs k).getD z
def ddL : List D → List (Key × D) → Option (List (Key × D))
  | [], acc => some acc
  | [_], _ => none
  | k :: v :: r, acc => (kD k).bind fun k => ddL r (putA acc k v)
def ddD (n : Nat) (xs : List D) (S : Sto) : R D := match S[n]?, ddL xs [] with
  | some (.dic []), some kvs => if xs.length ≤ 30 then .ok (.loc n) (S.set n (.dic kvs)) else .bad
  | _, _ => .bad
def ddnL : List D → List (NestedKey × D) → Option (List (NestedKey × D))
  | [], acc => some acc
  | [_], _ => none
  | k :: v :: r, acc => (kT k).bind fun k => ddnL r (putA acc k v)
def ddnD (n : Nat) (xs : List D) (S : Sto) : R D := match S[n]?, ddnL xs [] with
  | some (.dn []), some kvs => if xs.length ≤ 30 then .ok (.loc n) (S.set n (.dn kvs)) else .bad
  | _, _ => .bad
def xfs : Nat → List Str
  | 9 => ["direction"]
  | 10 => ["limit"]
  | _ => []
def fldD (f : Str) : D → Option D
  | .exn c ps => if (xfs c).length = ps.length then ((xfs c).zip ps).lookup f else none
  | _ => none
def dixD (x y : D) (S : Sto) : Option D := (dicD S x).bind fun kvs => (kD y).bind fun k => valA kvs k
def dsetdD (n : Nat) (y z : D) (S : Sto) : R D := match S[n]?, kD y with
  | some (.dic kvs), some k => if kvs.length < sizeLine then (match valA kvs k with
    | some v => .ok v S
    | none => .ok z (S.set n (.dic (putA kvs k z)))) else .bad
  | _, _ => .bad
def srcOf (x : D) (S : Sto) : Option Src := match x with
  | .fl ds => some (.ds ds)
  | .tup ds => some (.ds ds)
  | .loc n => (lstAt S n).map fun _ => .lst n
  | .str z => some (.ds (z.cps.toList.map fun c => .str ⟨#[c]⟩))
  | _ => none
def Src.get (s : Src) (i : Nat) (S : Sto) : Option (Option D) := match s with
  | .lst n => (lstAt S n).map fun ds => ds[i]?
  | .ds l => some l[i]?
  | .zip n k => (lstAt S n).bind fun a => (lstAt S k).map fun b => a[i]?.bind fun x => b[i]?.map fun y => .tup [x, y]
  | .enum n => (lstAt S n).map fun ds => ds[i]?.map fun x => .tup [.int (i : Nat), x]
  | .zipF n l => (lstAt S n).map fun a => a[i]?.bind fun x => l[i]?.map fun y => .tup [x, y]
def Src.size (s : Src) (S : Sto) : Nat := match s with
  | .lst n => ((lstAt S n).getD []).length
  | .ds l => l.length
  | .zip n _ => ((lstAt S n).getD []).length
  | .enum n => ((lstAt S n).getD []).length
  | .zipF n _ => ((lstAt S n).getD []).length
mutual
def bindT : Xp → D → Env → Option Env
  | .var i, d, ρ => some (ρ.set i (some d))
  | .tup t, d, ρ => match d with
    | .tup ds => bindL t ds ρ
    | _ => none
  | .lst t, d, ρ => match d with
    | .fl ds => bindL t ds ρ
    | _ => none
  | _, _, _ => none
def bindL : Xp → List D → Env → Option Env
  | .nil, [], ρ => some ρ
  | .cons a b, d :: ds, ρ => (bindT a d ρ).bind fun ρ1 => bindL b ds ρ1
  | _, _, _ => none
end
def wipeE (ρ : Env) : List Nat → Env
  | [] => ρ
  | v :: vs => (wipeE ρ vs).set v none
def lcl (src : Src) (tg : Xp) (cond : Env → Sto → R Bool) (elt : Env → Sto → R D) (ρ : Env) : Nat → Nat → List D → Sto → R (List D)
  | 0, _, _, _ => .bad
  | n + 1, i, acc, S => match src.get i S with
    | none => .bad
    | some none => .ok acc S
    | some (some d) => match bindT tg d ρ with
      | none => .bad
      | some ρ1 => match cond ρ1 S with
        | .ok true S1 => match elt ρ1 S1 with
          | .ok y S2 => if acc.length < sizeLine then lcl src tg cond elt ρ n (i + 1) (acc ++ [y]) S2 else .bad
          | _ => .bad
        | .ok false S1 => lcl src tg cond elt ρ n (i + 1) acc S1
        | _ => .bad
def lcl2 (src : Src) (tg : Xp) (cond : Env → Sto → R Bool) (inn : Env → List D → Sto → R (List D)) (ρ : Env) : Nat → Nat → List D → Sto → R (List D)
  | 0, _, _, _ => .bad
  | n + 1, i, acc, S => match src.get i S with
    | none => .bad
    | some none => .ok acc S
    | some (some d) => match bindT tg d ρ with
      | none => .bad
      | some ρ1 => match cond ρ1 S with
        | .ok true S1 => match inn ρ1 acc S1 with
          | .ok acc2 S2 => lcl2 src tg cond inn ρ n (i + 1) acc2 S2
          | _ => .bad
        | .ok false S1 => lcl2 src tg cond inn ρ n (i + 1) acc S1
        | _ => .bad
def lcld (src : Src) (tg : Xp) (cond : Env → Sto → R Bool) (key val : Env → Sto → R D) (ρ : Env) : Nat → Nat → List (Key × D) → Sto → R (List (Key × D))
  | 0, _, _, _ => .bad
  | n + 1, i, acc, S => match src.get i S with
    | none => .bad
    | some none => .ok acc S
    | some (some d) => match bindT tg d ρ with
      | none => .bad
      | some ρ1 => match cond ρ1 S with
        | .ok true S1 => match key ρ1 S1 with
          | .ok x S2 => match val ρ1 S2 with
            | .ok y S3 => match kD x with
              | some k => if acc.length < sizeLine then lcld src tg cond key val ρ n (i + 1) (putA acc k y) S3 else .bad
              | none => .bad
            | _ => .bad
          | _ => .bad
        | .ok false S1 => lcld src tg cond key val ρ n (i + 1) acc S1
        | _ => .bad
def insF (S : Sto) (x : D) (f : Str) : Option D := match x with
  | .loc n => match S[n]? with
    | some (.ins _ fs) => fs.lookup f
    | _ => none
  | _ => none
def insM (S : Sto) (x : D) (c : Nat) (m : Str) : Bool := match x with
  | .loc n => match S[n]? with
    | some (.ins c' fs) => c' == c && (fs.lookup m).isNone
    | _ => false
  | _ => false
def setFs (f : Str) (d : D) : List (Str × D) → List (Str × D)
  | [] => [(f, d)]
  | (g, x) :: r => if g = f then (g, d) :: r else (g, x) :: setFs f d r
def insS (S : Sto) (x : D) (f : Str) (d : D) : Option Sto := match x with
  | .loc n => match S[n]? with
    | some (.ins c fs) => if fs.length < 30 then some (S.set n (.ins c (setFs f d fs))) else none
    | _ => none
  | _ => none
def permL {α : Type} (vs : List α) : List Nat → Option (List α)
  | [] => some []
  | p :: ps => (vs[p]?).bind fun v => (permL vs ps).map (v :: ·)
def fnIx (t : List (Str × Nat)) : D → Option Nat
  | .fn x => t.lookup x
  | _ => none
def enumL : Nat → List D → List D
  | _, [] => []
  | i, d :: ds => .tup [.int (i : Nat), d] :: enumL (i + 1) ds
def rangeD (lo : Int) (n : Nat) : List D := (List.range n).map fun i : Nat => .int (lo + (i : Nat))
def small62 (i : Int) : Bool := decide (-(2 ^ 62) ≤ i) && decide (i < 2 ^ 62)
def asT (r : R D) : R Bool := r.bind fun x S => R.opt (truth x S) S
def asI (r : R D) : R Int := r.bind fun x S => match x with
  | .int i => .ok i S
  | _ => .bad
mutual
noncomputable def ev (C : CallSem) (G : Nat → Option D) : Xp → Env → Sto → R D
  | .var i, ρ, S => R.opt (ρ[i]?.bind id) S
  | .glo x, _, S => R.opt (G x) S
  | .non, _, S => .ok .non S
  | .bl b, _, S => .ok (.bl b) S
  | .int i, _, S => .ok (.int i) S
  | .str x, _, S => .ok (.str x) S
  | .tyc t, _, S => .ok (.ty t) S
  | .bin op a b, ρ, S => (ev C G a ρ S).bind fun x S1 => (ev C G b ρ S1).bind fun y S2 => binD op x y S2
  | .neg a, ρ, S => (asI (ev C G a ρ S)).bind fun i S1 => .ok (.int (-i)) S1
  | .nt a, ρ, S => (asT (ev C G a ρ S)).bind fun b S1 => .ok (.bl (!b)) S1
  | .and a b, ρ, S => (ev C G a ρ S).bind fun x S1 => match truth x S1 with
    | some true => ev C G b ρ S1
    | some false => .ok x S1
    | none => .bad
  | .or a b, ρ, S => (ev C G a ρ S).bind fun x S1 => match truth x S1 with
    | some true => .ok x S1
    | some false => ev C G b ρ S1
    | none => .bad
  | .cmp op a b, ρ, S => (ev C G a ρ S).bind fun x S1 => (ev C G b ρ S1).bind fun y S2 => R.opt ((cmpD op x y S2).map .bl) S2
  | .cmp2 op op' a b c, ρ, S => (ev C G a ρ S).bind fun x S1 => (ev C G b ρ S1).bind fun y S2 => match cmpD op x y S2 with
    | some true => (ev C G c ρ S2).bind fun z S3 => R.opt ((cmpD op' y z S3).map .bl) S3
    | some false => .ok (.bl false) S2
    | none => .bad
  | .ife c a b, ρ, S => (asT (ev C G c ρ S)).bind fun t S1 => if t then ev C G a ρ S1 else ev C G b ρ S1
  | .call f es, ρ, S => (evs C G es ρ S).bind fun xs S1 => C f xs S1
  | .callk f es ks perm, ρ, S => (evs C G es ρ S).bind fun xs S1 => (evs C G ks ρ S1).bind fun ys S2 => match permL (xs ++ ys) perm with
    | some zs => C f zs S2
    | none => .bad
  | .callv t f es, ρ, S => (ev C G f ρ S).bind fun g S0 => match fnIx t g with
    | some i => (evs C G es ρ S0).bind fun xs S1 => C i xs S1
    | none => .bad
  | .callvk t f es ks perm, ρ, S => (ev C G f ρ S).bind fun g S0 => match fnIx t g with
    | some i => (evs C G es ρ S0).bind fun xs S1 => (evs C G ks ρ S1).bind fun ys S2 => match permL (xs ++ ys) perm with
      | some zs => C i zs S2
      | none => .bad
    | none => .bad
  | .dnn, _, S => mk (.dn []) S
  | .ddn es, ρ, S => (evs C G es ρ (S ++ [.dn []])).bind fun xs S1 => ddnD S.length xs S1
  | .dd es, ρ, S => (evs C G es ρ (S ++ [.dic []])).bind fun xs S1 => ddD S.length xs S1
  | .xfld f a, ρ, S => (ev C G a ρ S).bind fun x S1 => R.opt (fldD f x) S1
  | .mkx c es, ρ, S => (evs C G es ρ S).bind fun xs S1 => .ok (.exn c xs) S1
  | .bi b es, ρ, S => (evs C G es ρ S).bind fun xs S1 => biD b xs S1
  | .mt m o es, ρ, S => (ev C G o ρ S).bind fun x S1 => if isLst x S1 then (evs C G es ρ S1).bind fun xs S2 => mtD m x xs S2 else .bad
  | .dnew, _, S => mk (.dic []) S
  | .dget o k v, ρ, S => (ev C G o ρ S).bind fun x S1 => match dicD S1 x with
    | some _ => (ev C G k ρ S1).bind fun y S2 => (ev C G v ρ S2).bind fun z S3 => R.opt (dgetD x y z S3) S3
    | none => .bad
  | .dgetn o k v, ρ, S => (ev C G o ρ S).bind fun x S1 => match dnD S1 x with
    | some _ => (ev C G k ρ S1).bind fun y S2 => (ev C G v ρ S2).bind fun z S3 => R.opt (dgetnD x y z S3) S3
    | none => .bad
  | .dsetd o k v, ρ, S => (ev C G o ρ S).bind fun x S1 => match asDic x S1 with
    | some n => (ev C G k ρ S1).bind fun y S2 => (ev C G v ρ S2).bind fun z S3 => dsetdD n y z S3
    | none => .bad
  | .sumv o, ρ, S => (ev C G o ρ S).bind fun x S1 => match dicD S1 x with
    | some kvs => R.opt ((intsOf (kvs.map (·.2))).map fun ns => .int ns.sum) S1
    | none => .bad
  | .lix o e, ρ, S => (ev C G o ρ S).bind fun x S1 => if (lstD S1 x).isSome then (ev C G e ρ S1).bind fun y S2 => R.opt (lixD x y S2) S2 else .bad
  | .lset o, ρ, S => (ev C G o ρ S).bind fun x S1 => R.opt (((lstD S1 x).bind lsetL).map fun (n : Nat) => D.int n) S1
  | .gdx t e, ρ, S => (ev C G e ρ S).bind fun x S1 => match x with
    | .str z => R.opt (t.lookup z) S1
    | _ => .bad
  | .ix a b, ρ, S => (ev C G a ρ S).bind fun x S1 => (ev C G b ρ S1).bind fun y S2 => R.opt (ixD x y S2) S2
  | .sl a lo hi, ρ, S => (ev C G a ρ S).bind fun x S1 => (evp C G lo ρ S1).bind fun l S2 => (evp C G hi ρ S2).bind fun h S3 => slD x l h S3
  | .frzv a, ρ, S => trim S ((ev C G a ρ S).bind fun x S1 => frzD x S1)
  | .rev a, ρ, S => (ev C G a ρ S).bind fun x S1 => revD x S1
  | .tup es, ρ, S => (evs C G es ρ S).bind fun xs S1 => if xs.length ≤ 1000 then .ok (.tup xs) S1 else .bad
  | .lst es, ρ, S => (evs C G es ρ S).bind fun xs S1 => if xs.length ≤ 1000 then mk (.lst xs) S1 else .bad
  | .lc it tg elt cond vs, ρ, S => (evi C G it ρ S).bind fun src S1 =>
    (lcl src tg (fun ρ1 S2 => asT (ev C G cond ρ1 S2)) (fun ρ1 S2 => ev C G elt ρ1 S2) (wipeE ρ vs) (src.size S1 + 1) 0 [] S1).bind fun ds S2 => mk (.lst ds) S2
  | .lc2 it tg cond it1 tg1 cond1 elt vs vs1, ρ, S => (evi C G it ρ S).bind fun src S1 =>
    (lcl2 src tg (fun ρ1 S2 => asT (ev C G cond ρ1 S2)) (fun ρ1 acc S2 => match evi C G it1 ρ1 S2 with
      | .ok src1 S3 => lcl src1 tg1 (fun ρ2 S4 => asT (ev C G cond1 ρ2 S4)) (fun ρ2 S4 => ev C G elt ρ2 S4) (wipeE ρ1 vs1) (src1.size S3 + 1) 0 acc S3
      | _ => .bad) (wipeE ρ vs) (src.size S1 + 1) 0 [] S1).bind fun ds S2 => mk (.lst ds) S2
  | .prm f es, ρ, S => (evs C G es ρ S).bind fun xs S1 => f xs S1
  | .fld f o, ρ, S => (ev C G o ρ S).bind fun x S1 => R.opt (insF S1 x f) S1
  | .meth m c i o es, ρ, S => (ev C G o ρ S).bind fun x S1 => if insM S1 x c m then (evs C G es ρ S1).bind fun xs S2 => C i (x :: xs) S2 else .bad
  | .mko c i es, ρ, S => (evs C G es ρ S).bind fun xs S1 => (C i (.loc S1.length :: xs) (S1 ++ [.ins c []])).bind fun r S2 => match r with
    | .non => .ok (.loc S1.length) S2
    | _ => .bad
  | .lcd it tg k v cond vs, ρ, S => (evi C G it ρ S).bind fun src S1 =>
    (lcld src tg (fun ρ1 S2 => asT (ev C G cond ρ1 S2)) (fun ρ1 S2 => ev C G k ρ1 S2) (fun ρ1 S2 => ev C G v ρ1 S2) (wipeE ρ vs) (src.size S1 + 1) 0 [] S1).bind fun kvs S2 => mk (.dic kvs) S2
  | _, _, _ => .bad
noncomputable def evs (C : CallSem) (G : Nat → Option D) : Xp → Env → Sto → R (List D)
  | .nil, _, S => .ok [] S
  | .cons a b, ρ, S => (ev C G a ρ S).bind fun x S1 => (evs C G b ρ S1).bind fun xs S2 => .ok (x :: xs) S2
  | _, _, _ => .bad
noncomputable def evp (C : CallSem) (G : Nat → Option D) : Xp → Env → Sto → R (Option Int)
  | .nil, _, S => .ok none S
  | .cons a _, ρ, S => (asI (ev C G a ρ S)).bind fun i S1 => .ok (some i) S1
  | _, _, _ => .bad
noncomputable def evi (C : CallSem) (G : Nat → Option D) : Xp → Env → Sto → R Src
  | .itr a, ρ, S => (ev C G a ρ S).bind fun x S1 => R.opt (srcOf x S1) S1
  | .dit o, ρ, S => (ev C G o ρ S).bind fun x S1 => match x with
    | .fd ks ds => .ok (.ds ((ks.zip ds).map fun kv => .tup [kDi kv.1, kv.2])) S1
    | _ => .bad
  | .dks o, ρ, S => (ev C G o ρ S).bind fun x S1 => match x with
    | .fd ks ds => .ok (.ds ((ks.zip ds).map fun kv => kDi kv.1)) S1
    | _ => .bad
  | .dksn o, ρ, S => (ev C G o ρ S).bind fun x S1 => match x with
    | .fm ks ds => .ok (.ds ((ks.zip ds).map fun kv => nD kv.1)) S1
    | _ => .bad
  | .dvs o, ρ, S => (ev C G o ρ S).bind fun x S1 => match x with
    | .fd ks ds => .ok (.ds ((ks.zip ds).map fun kv => kv.2)) S1
    | _ => .bad
  | .rng1 a, ρ, S => (asI (ev C G a ρ S)).bind fun i S1 => if small62 i then .ok (.ds (rangeD 0 i.toNat)) S1 else .bad
  | .rng2 a b, ρ, S => (asI (ev C G a ρ S)).bind fun i S1 => (asI (ev C G b ρ S1)).bind fun j S2 => if small62 i && small62 j then .ok (.ds (rangeD i (j - i).toNat)) S2 else .bad
  | .zip2 a b, ρ, S => (ev C G a ρ S).bind fun x S1 => (ev C G b ρ S1).bind fun y S2 => match x, y with
    | .loc n, .loc k => match lstAt S2 n, lstAt S2 k with
      | some _, some _ => .ok (.zip n k) S2
      | _, _ => .bad
    | .tup xs, .tup ys => .ok (.ds ((xs.zip ys).map fun p => .tup [p.1, p.2])) S2
    | .fl xs, .fl ys => .ok (.ds ((xs.zip ys).map fun p => .tup [p.1, p.2])) S2
    | .fl xs, .tup ys => .ok (.ds ((xs.zip ys).map fun p => .tup [p.1, p.2])) S2
    | .loc n, .fl ys => match lstAt S2 n with
      | some _ => .ok (.zipF n ys) S2
      | none => .bad
    | _, _ => .bad
  | .enum a, ρ, S => (ev C G a ρ S).bind fun x S1 => match x with
    | .fl ds => .ok (.ds (enumL 0 ds)) S1
    | .loc n => match lstAt S1 n with
      | some _ => .ok (.enum n) S1
      | none => .bad
    | _ => .bad
  | .itp f es, ρ, S => (evs C G es ρ S).bind fun xs S1 => f xs S1
  | _, _, _ => .bad
end
inductive Rs where
  | nx (ρ : Env) (S : Sto) | rt (d : D) (S : Sto) | bk (ρ : Env) (S : Sto) | ct (ρ : Env) (S : Sto) | exc (c : Nat) (p : List D) (ρ : Env) (S : Sto) | bad
inductive Sx where
  | pass | ex (e : Xp) | asg (t e : Xp) | par (js : List Nat) (es : Xp) | aug (i : Nat) (op : Operator) (e : Xp) | augx (o i : Xp) (op : Operator) (e : Xp)
  | iff (c : Xp) (a b : Sx) | whl (c : Xp) (b : Sx) | for_ (t it : Xp) (b : Sx) | ret (e : Xp) | brk | cont | rse (c : Nat) (e : Xp)
  | tryS (b : Sx) (cs : List (Nat × Bool)) (s : Sx)
  | tryA (b : Sx) (o : Option Nat) (cs : List (Nat × Bool)) (s : Sx)
  | asgs (ts es : Xp) | fset (o : Xp) (f : Str) (e : Xp)
  | fz (i : Nat) (b : Sx) | wip (i : Nat) (b : Sx) | nil | cons (a b : Sx)
def ofR {α : Type} (r : R α) (ρ : Env) (f : α → Sto → Rs) : Rs := match r with
  | .ok a S => f a S
  | .exc c p S => .exc c p ρ S
  | .bad => .bad
@[simp] theorem ofR_ok {α : Type} (a : α) (S : Sto) (ρ : Env) (f : α → Sto → Rs) : ofR (.ok a S) ρ f = f a S := rfl
@[simp] theorem ofR_bad {α : Type} (ρ : Env) (f : α → Sto → Rs) : ofR (.bad : R α) ρ f = .bad := rfl
@[simp] theorem ofR_exc {α : Type} (c : Nat) (p : List D) (S : Sto) (ρ : Env) (f : α → Sto → Rs) : ofR (.exc c p S : R α) ρ f = .exc c p ρ S := rfl
noncomputable def setT (C : CallSem) (G : Nat → Option D) (t : Xp) (d : D) (ρ : Env) (S : Sto) : Rs := match t with
  | .ix o i => ofR (ev C G o ρ S) ρ fun x S1 => ofR (ev C G i ρ S1) ρ fun y S2 => match setIx x y d S2 with
    | some S3 => .nx ρ S3
    | none => .bad
  | .sl o l h => ofR (ev C G o ρ S) ρ fun x S1 => ofR (evp C G l ρ S1) ρ fun a S2 => ofR (evp C G h ρ S2) ρ fun b S3 => match setSl x a b d S3 with
    | some S4 => .nx ρ S4
    | none => .bad
  | t => match bindT t d ρ with
    | some ρ1 => .nx ρ1 S
    | none => .bad
noncomputable def setTs (C : CallSem) (G : Nat → Option D) : Xp → List D → Env → Sto → Rs
  | .nil, [], ρ, S => .nx ρ S
  | .cons t ts, d :: ds, ρ, S => match setT C G t d ρ S with
    | .nx ρ1 S1 => setTs C G ts ds ρ1 S1
    | r => r
  | _, _, _, _ => .bad
def parE : List Nat → List D → Env → Option Env
  | [], [], ρ => some ρ
  | j :: js, d :: ds, ρ => parE js ds (ρ.set j (some d))
  | _, _, _ => none
def whl (c : Env → Sto → R Bool) (b : Env → Sto → Rs) : Nat → Env → Sto → Rs
  | 0, _, _ => .bad
  | n + 1, ρ, S => ofR (c ρ S) ρ fun t S1 => if t then (match b ρ S1 with
    | .nx ρ2 S2 => whl c b n ρ2 S2
    | .ct ρ2 S2 => whl c b n ρ2 S2
    | .bk ρ2 S2 => .nx ρ2 S2
    | r => r) else .nx ρ S1
def forl (src : Src) (tg : Xp) (b : Env → Sto → Rs) : Nat → Nat → Env → Sto → Rs
  | 0, _, _, _ => .bad
  | n + 1, i, ρ, S => match src.get i S with
    | none => .bad
    | some none => .nx ρ S
    | some (some d) => match bindT tg d ρ with
      | none => .bad
      | some ρ1 => match b ρ1 S with
        | .nx ρ2 S2 => forl src tg b n (i + 1) ρ2 S2
        | .ct ρ2 S2 => forl src tg b n (i + 1) ρ2 S2
        | .bk ρ2 S2 => .nx ρ2 S2
        | r => r
def envLt (k : Nat) (ρ : Env) : Bool := ρ.all fun o => match o with
  | some d => d.lt k
  | none => true
def asE (o : Option Nat) (d : D) (ρ : Env) : Env := match o with
  | some i => ρ.set i (some d)
  | none => ρ
def unO (o : Option Nat) (ρ : Env) : Env := match o with
  | some i => ρ.set i none
  | none => ρ
def suiteR (o : Option Nat) : Rs → Rs
  | .nx ρ S => .nx (unO o ρ) S
  | .bk ρ S => .bk (unO o ρ) S
  | .ct ρ S => .ct (unO o ρ) S
  | .rt d S => .rt d S
  | .exc _ _ _ _ => .bad
  | .bad => .bad
noncomputable def fzE (i : Nat) (S : Sto) (ρ : Env) (S1 : Sto) : Rs := match ρ[i]?.bind id with
  | some d => match frzD d S1 with
    | .ok d2 S2 => .nx (ρ.set i (some d2)) (cutS S (envLt S.length (ρ.set i (some d2))) S2)
    | _ => .bad
  | none => .bad
noncomputable def run (W : Nat) (C : CallSem) (G : Nat → Option D) : Sx → Env → Sto → Rs
  | .pass, ρ, S => .nx ρ S
  | .ex e, ρ, S => ofR (ev C G e ρ S) ρ fun _ S1 => .nx ρ S1
  | .asg t e, ρ, S => ofR (ev C G e ρ S) ρ fun d S1 => setT C G t d ρ S1
  | .par js es, ρ, S => ofR (evs C G es ρ S) ρ fun ds S1 => match parE js ds ρ with
    | some ρ1 => .nx ρ1 S1
    | none => .bad
  | .aug i op e, ρ, S => match ρ[i]?.bind id with
    | some x => ofR (ev C G e ρ S) ρ fun y S1 => ofR (augD op x y S1) ρ fun z S2 => .nx (ρ.set i (some z)) S2
    | none => .bad
  | .augx o i op e, ρ, S => ofR (ev C G o ρ S) ρ fun x S1 => ofR (ev C G i ρ S1) ρ fun y S2 => match dixD x y S2 with
    | some old => ofR (ev C G e ρ S2) ρ fun z S3 => ofR (augD op old z S3) ρ fun r S4 => match setIx x y r S4 with
      | some S5 => .nx ρ S5
      | none => .bad
    | none => .bad
  | .asgs ts es, ρ, S => ofR (evs C G es ρ S) ρ fun ds S1 => setTs C G ts ds ρ S1
  | .fset o f e, ρ, S => ofR (ev C G e ρ S) ρ fun d S1 => ofR (ev C G o ρ S1) ρ fun x S2 => match insS S2 x f d with
    | some S3 => .nx ρ S3
    | none => .bad
  | .iff c a b, ρ, S => ofR (asT (ev C G c ρ S)) ρ fun t S1 => if t then run W C G a ρ S1 else run W C G b ρ S1
  | .whl c b, ρ, S => whl (fun ρ S => asT (ev C G c ρ S)) (fun ρ S => run W C G b ρ S) W ρ S
  | .for_ t it b, ρ, S => ofR (evi C G it ρ S) ρ fun src S1 => forl src t (fun ρ S => run W C G b ρ S) (src.size S1 + 1) 0 ρ S1
  | .ret e, ρ, S => ofR (ev C G e ρ S) ρ fun d S1 => .rt d S1
  | .brk, ρ, S => .bk ρ S
  | .cont, ρ, S => .ct ρ S
  | .rse c e, ρ, S => ofR (evs C G e ρ S) ρ fun p S1 => .exc c p ρ S1
  | .tryS b cs s, ρ, S => match run W C G b ρ S with
    | .exc c' p ρ1 S1 => match cs.lookup c' with
      | some true => run W C G s ρ1 S1
      | some false => .exc c' p ρ1 S1
      | none => .bad
    | r => r
  | .tryA b o cs s, ρ, S => match run W C G b ρ S with
    | .exc c' p ρ1 S1 => match cs.lookup c' with
      | some true => suiteR o (run W C G s (asE o (.exn c' p) ρ1) S1)
      | some false => .exc c' p ρ1 S1
      | none => .bad
    | r => r
  | .fz i b, ρ, S => match run W C G b ρ S with
    | .nx ρ1 S1 => fzE i S ρ1 S1
    | r => r
  | .wip i b, ρ, S => run W C G b (ρ.set i none) S
  | .nil, ρ, S => .nx ρ S
  | .cons a b, ρ, S => match run W C G a ρ S with
    | .nx ρ1 S1 => run W C G b ρ1 S1
    | r => r
structure Fd where
  np : Nat
  n : Nat
  body : Sx
def startE (n : Nat) (ds : List D) : Env := ds.map some ++ List.replicate (n - ds.length) none
def endR (r : Rs) : R D := match r with
  | .nx _ S => .ok .non S
  | .rt d S => .ok d S
  | .exc c p _ S => .exc c p S
  | _ => .bad
noncomputable def callF (W : Nat) (G : Nat → Option D) (T : Nat → Option Fd) : Nat → CallSem
  | 0, _, _, _ => .bad
  | k + 1, f, ds, S => match T f with
    | some fd => if ds.length = fd.np then trim S (endR (run W (callF W G T k) G fd.body (startE fd.n ds) S)) else .bad
    | none => .bad
end CC
namespace CC
open PySem PySem.Spec PyProof.Rows L2
structure KW where
  f : PySem.W.Frag
  w : World
  hx : Option Addr
def hxA (A : Around) : Option Addr := match A.handled with
  | some (.ref a) => some a
  | _ => none
theorem hxA_none {A : Around} (h : A.handled = none) : hxA A = none := by unfold hxA; rw [h]
instance : Coe KW PySem.W.Frag := ⟨KW.f⟩
abbrev _root_.L2.Cx.kw (X : Cx) : KW := ⟨X.K, X.w, hxA X.A⟩
def SqU (K : PySem.W.Frag) (H : Hp) (a : Addr) (xs : List V) : Prop :=
  H a = some (.tup xs) ∨ ∃ (o : Obj) (its : Array Value) (n : Nat), K.lookup a = some o ∧ o.cls = .type "tuple" ∧ o.data = .seq its n ∧ its.size ≤ sizeLine ∧ Vals xs its.toList
theorem SqU.t {K : PySem.W.Frag} {H : Hp} {a : Addr} {xs : List V} (h : SqU K H a xs) : SqT K H a xs := by
  rcases h with h | h
  · exact .inl (.inl h)
  · exact .inr h
abbrev Mp := List (Addr × Bool)
def exNames : List Str := ["CityError", "InvalidCity", "InvalidStreet", "InvalidStreets", "InvalidPoint", "InvalidDrive", "InvalidCount", "InvalidText", "NothingToUndo", "MissingDirection", "TooLarge"]
def XcO (cls : Value) (d : Option Addr) (a : Addr) : HO := .ext fun h => ∃ (oe : Obj) (vs : Array Value), h.get? a = some oe ∧ L2N.Zn cls d oe ∧ oe.data = .fields vs
def XFld (H : Hp) (c : Nat) (d : Option Addr) (vs : List V) : Prop := (d = none ∧ vs = []) ∨ ∃ dd, d = some dd ∧ H dd = some (.xd ((xfs c).zip vs)) ∧ (xfs c).length = vs.length ∧ vs ≠ []
def entN (w : World) (x : NestedKey × Addr × Value) : DictEntry := ⟨x.1.hash w, .ref x.2.1, x.2.2⟩
abbrev XV : List (NestedKey × Addr × V) → List (NestedKey × Addr × Value) → Prop := Paired fun p q => p.1 = q.1 ∧ p.2.1 = q.2.1 ∧ RelV p.2.2 q.2.2
def rawN (w : World) (h : Heap) (a : Addr) (ys : List (NestedKey × Addr × Value)) : Prop := ∃ o es ep, h.get? a = some o ∧ o.ExactDict ∧ o.data = .dict es ep ∧ es.toList = ys.map (entN w) ∧ (ys.map (·.1)).Nodup
def DnO (w : World) (a : Addr) (xs : List (NestedKey × Addr × V)) : HO := .ext fun h => xs.length ≤ sizeLine ∧ (∀ x ∈ xs, x.1.depth ≤ 8) ∧ (a == sysModules) = false ∧ ∃ ys, XV xs ys ∧ rawN w h a ys
def BdO (w : World) (a : Addr) (vs : List (Bool × V)) : HO := .ext fun h => (a == sysModules) = false ∧ ∃ us, KV vs us ∧ ∀ P : Program, h.DictOf (PpSet.boolK P w) a us
def isXO : HO → Prop
  | .xd _ => True
  | _ => False
def insNames : List Str := ["KeptGrid", "LiveCity"]
mutual
inductive Rp (K : KW) (mg : Str → Option Value) (m : Mp) (H : Hp) : D → V → Prop
  | non : Rp K mg m H .non .non
  | bl (b : Bool) : Rp K mg m H (.bl b) (.bl b)
  | int (i : Int) : Rp K mg m H (.int i) (.int i)
  | str (x : Str) : Rp K mg m H (.str x) (.str x)
  | ty (t : String) : Rp K mg m H (.ty t) (.ty t)
  | fn {x : Str} {a : Addr} (h : mg x = some (.ref a)) : Rp K mg m H (.fn x) (.ref a)
  | tup {a : Addr} {vs : List V} {ds : List D} (h : SqU K H a vs) (hs : Rps K mg m H ds vs) : Rp K mg m H (.tup ds) (.ref a)
  | loc {n : Nat} {a : Addr} {b : Bool} (h : m[n]? = some (a, b)) : Rp K mg m H (.loc n) (.ref a)
  | fl {a : Addr} {o : Obj} {vs : List V} {ds : List D} (h : H a = some (.frz o (.lst vs))) (hs : Rps K mg m H ds vs) : Rp K mg m H (.fl ds) (.ref a)
  | fd {a : Addr} {o : Obj} {kvs : List (Key × V)} {ks : List Key} {ds : List D} (h : H a = some (.frz o (.dK kvs))) (hk : ks = kvs.map (·.1)) (hs : Rps K mg m H ds (kvs.map (·.2))) : Rp K mg m H (.fd ks ds) (.ref a)
  | exn {c : Nat} {x : Str} {A a : Addr} {oe : Obj} {d : Option Addr} {ps : List D} {vs : List V} (h1 : exNames[c]? = some x) (h2 : mg x = some (.ref A)) (h : H a = some (.frz oe (XcO (.ref A) d a))) (hf : XFld H c d vs) (hs : Rps K mg m H ps vs) : Rp K mg m H (.exn c ps) (.ref a)
  | cls {c : Nat} {x : Str} {A : Addr} (h1 : exNames[c]? = some x) (h2 : mg x = some (.ref A)) : Rp K mg m H (.cls c) (.ref A)
  | fm {a : Addr} {o : Obj} {xs : List (NestedKey × Addr × V)} {ks : List NestedKey} {ds : List D} (h : H a = some (.frz o (DnO K.w a xs))) (hk : ks = xs.map (·.1)) (hq : Rps K mg m H (nDs ks) (xs.map fun x => V.ref x.2.1)) (hs : Rps K mg m H ds (xs.map (·.2.2))) : Rp K mg m H (.fm ks ds) (.ref a)
  | bd {a : Addr} {o : Obj} {x y : V} {ds : List D} (h : H a = some (.frz o (BdO K.w a [(true, x), (false, y)]))) (hs : Rps K mg m H ds [x, y]) : Rp K mg m H (.bd ds) (.ref a)
  | bm {a : Addr} {o : Obj} {xs : List (NestedKey × Addr × V)} {ks : List D} {ds : List D} (h : H a = some (.frz o (DnO K.w a xs))) (hk : kBs ks = some (xs.map (·.1))) (hq : Rps K mg m H ks (xs.map fun x => V.ref x.2.1)) (hs : Rps K mg m H ds (xs.map (·.2.2))) : Rp K mg m H (.bd [.tup ks, .tup ds, .non]) (.ref a)
inductive Rps (K : KW) (mg : Str → Option Value) (m : Mp) (H : Hp) : List D → List V → Prop
  | nil : Rps K mg m H [] []
  | cons {d : D} {v : V} {ds : List D} {vs : List V} (h : Rp K mg m H d v) (hs : Rps K mg m H ds vs) : Rps K mg m H (d :: ds) (v :: vs)
end
structure Le (m m' : Mp) (H H' : Hp) : Prop where
  pre : ∀ (n : Nat) (a : Addr × Bool), m[n]? = some a → m'[n]? = some a
  tup : ∀ (a : Addr) (vs : List V), H a = some (.tup vs) → H' a = some (.tup vs)
  fz : ∀ (a : Addr) (o : Obj) (u : HO), H a = some (.frz o u) → H' a = some (.frz o u)
  ex : ∀ (a : Addr) (o : HO), H a = some o → isXO o → H' a = some o
  frame : ∀ (a : Addr) (o : HO), H a = some o → (a, false) ∉ m → H' a = some o ∧ (a, false) ∉ m'
structure Lt (m m' : Mp) (H H' : Hp) : Prop where
  pre : ∀ (n : Nat) (a : Addr × Bool), m[n]? = some a → m'[n]? = some a
  tup : ∀ (a : Addr) (vs : List V), H a = some (.tup vs) → H' a = some (.tup vs)
  fz : ∀ (a : Addr) (o : Obj) (u : HO), H a = some (.frz o u) → H' a = some (.frz o u)
  ex : ∀ (a : Addr) (o : HO), H a = some o → isXO o → H' a = some o
theorem Le.lt {m m' : Mp} {H H' : Hp} (l : Le m m' H H') : Lt m m' H H' := ⟨l.pre, l.tup, l.fz, l.ex⟩
theorem Lt.refl (m : Mp) (H : Hp) : Lt m m H H := ⟨fun _ _ h => h, fun _ _ h => h, fun _ _ _ h => h, fun _ _ h _ => h⟩
theorem Lt.trans {m m1 m2 : Mp} {H H1 H2 : Hp} (a : Lt m m1 H H1) (b : Lt m1 m2 H1 H2) : Lt m m2 H H2 := ⟨fun n x h => b.pre n x (a.pre n x h), fun x vs h => b.tup x vs (a.tup x vs h), fun x o u h => b.fz x o u (a.fz x o u h), fun x o h i => b.ex x o (a.ex x o h i) i⟩
theorem Le.refl (m : Mp) (H : Hp) : Le m m H H := ⟨fun _ _ h => h, fun _ _ h => h, fun _ _ _ h => h, fun _ _ h _ => h, fun _ _ h n => ⟨h, n⟩⟩
theorem Le.trans {m m1 m2 : Mp} {H H1 H2 : Hp} (a : Le m m1 H H1) (b : Le m1 m2 H1 H2) : Le m m2 H H2 :=
  ⟨fun n x h => b.pre n x (a.pre n x h), fun x vs h => b.tup x vs (a.tup x vs h), fun x o u h => b.fz x o u (a.fz x o u h), fun x o h i => b.ex x o (a.ex x o h i) i, fun x o h n => let ⟨h1, n1⟩ := a.frame x o h n; b.frame x o h1 n1⟩
section
variable {K : KW} {mg : Str → Option Value} {m m' : Mp} {H H' : Hp}
theorem sqT_lt (l : Lt m m' H H') {a : Addr} {vs : List V} (h : SqU K H a vs) : SqU K H' a vs := by
  rcases h with h | h
  · exact .inl (l.tup a vs h)
  · exact .inr h
mutual
theorem Rp.mov (l : Lt m m' H H') : ∀ {d : D} {v : V}, Rp K mg m H d v → Rp K mg m' H' d v
  | _, _, .non => .non
  | _, _, .bl b => .bl b
  | _, _, .int i => .int i
  | _, _, .str x => .str x
  | _, _, .ty t => .ty t
  | _, _, .fn h => .fn h
  | _, _, .tup h hs => .tup (sqT_lt l h) (Rps.mov l hs)
  | _, _, .loc h => .loc (l.pre _ _ h)
  | _, _, .fl h hs => .fl (l.fz _ _ _ h) (Rps.mov l hs)
  | _, _, .fd h hk hs => .fd (l.fz _ _ _ h) hk (Rps.mov l hs)
  | _, _, .fm h hk hq hs => .fm (l.fz _ _ _ h) hk (Rps.mov l hq) (Rps.mov l hs)
  | _, _, .bd h hs => .bd (l.fz _ _ _ h) (Rps.mov l hs)
  | _, _, .bm h hk hq hs => .bm (l.fz _ _ _ h) hk (Rps.mov l hq) (Rps.mov l hs)
  | _, _, .exn h1 h2 h hf hs => .exn h1 h2 (l.fz _ _ _ h) (hf.imp id fun ⟨dd, e, g, z⟩ => ⟨dd, e, l.ex _ _ g trivial, z⟩) (Rps.mov l hs)
  | _, _, .cls h1 h2 => .cls h1 h2
theorem Rps.mov (l : Lt m m' H H') : ∀ {ds : List D} {vs : List V}, Rps K mg m H ds vs → Rps K mg m' H' ds vs
  | _, _, .nil => .nil
  | _, _, .cons h hs => .cons (Rp.mov l h) (Rps.mov l hs)
end
theorem Rp.mono (l : Le m m' H H') {d : D} {v : V} (h : Rp K mg m H d v) : Rp K mg m' H' d v := h.mov l.lt
theorem Rps.mono (l : Le m m' H H') {ds : List D} {vs : List V} (h : Rps K mg m H ds vs) : Rps K mg m' H' ds vs := h.mov l.lt
theorem Rps.length : ∀ {ds : List D} {vs : List V}, Rps K mg m H ds vs → vs.length = ds.length
  | _, _, .nil => rfl
  | _, _, .cons _ hs => by rw [List.length_cons, List.length_cons, Rps.length hs]
theorem Rps.get : ∀ {ds : List D} {vs : List V} {i : Nat} {d : D}, Rps K mg m H ds vs → ds[i]? = some d → ∃ v, vs[i]? = some v ∧ Rp K mg m H d v
  | _, _, _, _, .nil, e => by simp at e
  | _, _, 0, _, .cons h _, e => by simp at e; subst e; exact ⟨_, rfl, h⟩
  | _, _, i + 1, d, .cons _ hs, e => by
    obtain ⟨v, h1, h2⟩ := Rps.get (i := i) (d := d) hs (by simpa using e)
    exact ⟨v, by simpa using h1, h2⟩
theorem Rps.append : ∀ {ds es : List D} {vs ws : List V}, Rps K mg m H ds vs → Rps K mg m H es ws → Rps K mg m H (ds ++ es) (vs ++ ws)
  | _, _, _, _, .nil, s => s
  | _, _, _, _, .cons h hs, s => .cons h (Rps.append hs s)
theorem Rps.take : ∀ {ds : List D} {vs : List V} (n : Nat), Rps K mg m H ds vs → Rps K mg m H (ds.take n) (vs.take n)
  | _, _, 0, _ => .nil
  | _, _, _ + 1, .nil => .nil
  | _, _, n + 1, .cons h hs => .cons h (Rps.take n hs)
theorem Rps.drop : ∀ {ds : List D} {vs : List V} (n : Nat), Rps K mg m H ds vs → Rps K mg m H (ds.drop n) (vs.drop n)
  | _, _, 0, h => h
  | _, _, _ + 1, .nil => .nil
  | _, _, n + 1, .cons _ hs => Rps.drop n hs
theorem Rps.set {d : D} {v : V} (r : Rp K mg m H d v) : ∀ {ds : List D} {vs : List V} (i : Nat), Rps K mg m H ds vs → Rps K mg m H (ds.set i d) (vs.set i v)
  | _, _, _, .nil => .nil
  | _, _, 0, .cons _ hs => .cons r hs
  | _, _, i + 1, .cons h hs => .cons h (Rps.set r i hs)
theorem Rps.reverse : ∀ {ds : List D} {vs : List V}, Rps K mg m H ds vs → Rps K mg m H ds.reverse vs.reverse
  | _, _, .nil => .nil
  | _, _, .cons h hs => by
    rw [List.reverse_cons, List.reverse_cons]
    exact Rps.append (Rps.reverse hs) (.cons h .nil)
theorem Rps.flatten {ds : List D} {vs : List V} (h : Rps K mg m H ds vs) : ∀ k : Nat, Rps K mg m H (List.replicate k ds).flatten (List.replicate k vs).flatten
  | 0 => .nil
  | k + 1 => by
    rw [List.replicate_succ, List.replicate_succ, List.flatten_cons, List.flatten_cons]
    exact Rps.append h (Rps.flatten h k)
theorem Rps.cut {ds : List D} {vs : List V} (h : Rps K mg m H ds vs) (lo hi : Option Int) : Rps K mg m H (CC.cut ds lo hi) (cutV vs lo hi) := by
  unfold CC.cut cutV
  rw [h.length]
  exact Rps.take _ (Rps.drop _ h)
theorem Rps.atI {ds : List D} {vs : List V} {i : Int} {d : D} (h : Rps K mg m H ds vs) (e : L2.atI ds i = some d) : ∃ v, L2.atI vs i = some v ∧ Rp K mg m H d v := by
  unfold L2.atI at e ⊢
  rw [h.length]
  cases q : ixN ds.length i with
  | none => rw [q] at e; simp at e
  | some j =>
    rw [q] at e
    obtain ⟨v, h1, h2⟩ := h.get (i := j) (d := d) (by simpa using e)
    exact ⟨v, by simpa using h1, h2⟩
theorem Rps.ints : ∀ {ds : List D} {vs : List V} {ns : List Int}, Rps K mg m H ds vs → intsOf ds = some ns → vs = ns.map V.int
  | _, _, _, .nil, e => by cases e; rfl
  | .int i :: r, _, ns, .cons (.int _) hs, e => by
    unfold intsOf at e
    cases q : intsOf r with
    | none => rw [q] at e; cases e
    | some l =>
      rw [q] at e
      cases e
      rw [Rps.ints hs q]
      rfl
  | .non :: _, _, _, .cons _ _, e => by cases e
  | .bl _ :: _, _, _, .cons _ _, e => by cases e
  | .str _ :: _, _, _, .cons _ _, e => by cases e
  | .tup _ :: _, _, _, .cons _ _, e => by cases e
  | .loc _ :: _, _, _, .cons _ _, e => by cases e
  | .ty _ :: _, _, _, .cons _ _, e => by cases e
  | .fn _ :: _, _, _, .cons _ _, e => by cases e
  | .fl _ :: _, _, _, .cons _ _, e => by cases e
  | .fd _ _ :: _, _, _, .cons _ _, e => by cases e
  | .exn _ _ :: _, _, _, .cons _ _, e => by cases e
  | .cls _ :: _, _, _, .cons _ _, e => by cases e
  | .fm _ _ :: _, _, _, .cons _ _, e => by cases e
  | .bd _ :: _, _, _, .cons _ _, e => by cases e
theorem Rps.bls : ∀ {ds : List D} {vs : List V} {ns : List Bool}, Rps K mg m H ds vs → blsOf ds = some ns → vs = ns.map V.bl
  | _, _, _, .nil, e => by cases e; rfl
  | .bl i :: r, _, ns, .cons (.bl _) hs, e => by
    unfold blsOf at e
    cases q : blsOf r with
    | none => rw [q] at e; cases e
    | some l =>
      rw [q] at e
      cases e
      rw [Rps.bls hs q]
      rfl
  | .non :: _, _, _, .cons _ _, e => by cases e
  | .int _ :: _, _, _, .cons _ _, e => by cases e
  | .str _ :: _, _, _, .cons _ _, e => by cases e
  | .tup _ :: _, _, _, .cons _ _, e => by cases e
  | .loc _ :: _, _, _, .cons _ _, e => by cases e
  | .ty _ :: _, _, _, .cons _ _, e => by cases e
  | .fn _ :: _, _, _, .cons _ _, e => by cases e
  | .fl _ :: _, _, _, .cons _ _, e => by cases e
  | .fd _ _ :: _, _, _, .cons _ _, e => by cases e
  | .exn _ _ :: _, _, _, .cons _ _, e => by cases e
  | .cls _ :: _, _, _, .cons _ _, e => by cases e
  | .fm _ _ :: _, _, _, .cons _ _, e => by cases e
  | .bd _ :: _, _, _, .cons _ _, e => by cases e
end
def SqF (K : PySem.W.Frag) (H : Hp) (a : Addr × Bool) (xs : List V) : Prop :=
  (a.2 = false ∧ ∃ o, H a.1 = some (.frz o (.lst xs))) ∨ (a.2 = true ∧ ∃ (o : Obj) (its : Array Value) (n : Nat), K.lookup a.1 = some o ∧ o.cls = .type "list" ∧ o.dict = none ∧ o.data = .seq its n ∧ its.size ≤ sizeLine ∧ Vals xs its.toList)
theorem SqF.sq {K : PySem.W.Frag} {H : Hp} {a : Addr × Bool} {xs : List V} (h : SqF K H a xs) : SqL K H a.1 xs := by
  rcases h with ⟨_, o, h⟩ | ⟨_, h⟩
  · exact .inl (.inr ⟨o, h⟩)
  · exact .inr h
def Kvs (K : KW) (mg : Str → Option Value) (m : Mp) (H : Hp) (kvs : List (Key × D)) (ks : List (Key × V)) : Prop := kvs.map (·.1) = ks.map (·.1) ∧ Rps K mg m H (kvs.map (·.2)) (ks.map (·.2))
def NKvs (K : KW) (mg : Str → Option Value) (m : Mp) (H : Hp) (kvs : List (NestedKey × D)) (xs : List (NestedKey × Addr × V)) : Prop :=
  kvs.map (·.1) = xs.map (·.1) ∧ Rps K mg m H (nDs (xs.map (·.1))) (xs.map fun x => V.ref x.2.1) ∧ Rps K mg m H (kvs.map (·.2)) (xs.map (·.2.2))
theorem NKvs.mov {K : KW} {mg : Str → Option Value} {m m' : Mp} {H H' : Hp} (l : Lt m m' H H') {kvs : List (NestedKey × D)} {xs : List (NestedKey × Addr × V)} (h : NKvs K mg m H kvs xs) : NKvs K mg m' H' kvs xs := ⟨h.1, h.2.1.mov l, h.2.2.mov l⟩
def Ins (K : KW) (mg : Str → Option Value) (m : Mp) (H : Hp) (c : Nat) (fs : List (Str × D)) (us : Addr × Addr × List (Str × V)) : Prop :=
  (∃ x, insNames[c]? = some x ∧ mg x = some (.ref us.1)) ∧ fs.map (·.1) = us.2.2.map (·.1) ∧ Rps K mg m H (fs.map (·.2)) (us.2.2.map (·.2))
theorem Ins.mov {K : KW} {mg : Str → Option Value} {m m' : Mp} {H H' : Hp} (l : Lt m m' H H') {c : Nat} {fs : List (Str × D)} {us : Addr × Addr × List (Str × V)} (h : Ins K mg m H c fs us) : Ins K mg m' H' c fs us := ⟨h.1, h.2.1, h.2.2.mov l⟩
def RO (K : KW) (mg : Str → Option Value) (m : Mp) (H : Hp) (so : SO) (a : Addr × Bool) : Prop := match so with
  | .lst ds => ∃ vs, a.2 = false ∧ H a.1 = some (.lst vs) ∧ Rps K mg m H ds vs
  | .frz ds => ∃ vs, SqF K H a vs ∧ Rps K mg m H ds vs
  | .dic kvs => ∃ ks, a.2 = false ∧ H a.1 = some (.dK ks) ∧ Kvs K mg m H kvs ks
  | .fdic kvs => ∃ ks od, a.2 = false ∧ H a.1 = some (.frz od (.dK ks)) ∧ Kvs K mg m H kvs ks
  | .dn kvs => ∃ xs, a.2 = false ∧ H a.1 = some (DnO K.w a.1 xs) ∧ NKvs K mg m H kvs xs
  | .fdn kvs => ∃ xs od, a.2 = false ∧ H a.1 = some (.frz od (DnO K.w a.1 xs)) ∧ NKvs K mg m H kvs xs
  | .ins c fs => ∃ us : Addr × Addr × List (Str × V), a.2 = false ∧ H a.1 = some (.ins us.1 us.2.1 us.2.2) ∧ Ins K mg m H c fs us
def HotH (o : Option Addr) (H : Hp) : Prop := ∀ a, o = some a → ∃ (oe : Obj) (vs : Array Value) (u : HO), H a = some (.frz oe u) ∧ oe.data = .fields vs ∧ vs[2]? = some .none
theorem HotH.mono {o : Option Addr} {H H' : Hp} (h : HotH o H) (l : ∀ (a : Addr) (o : Obj) (u : HO), H a = some (.frz o u) → H' a = some (.frz o u)) : HotH o H' := fun a e => let ⟨oe, vs, u, h1, h2⟩ := h a e; ⟨oe, vs, u, l _ _ _ h1, h2⟩
structure RelA (K : KW) (mg : Str → Option Value) (m : Mp) (H : Hp) (S : Sto) : Prop where
  len : m.length = S.length
  nd : ∀ (n k : Nat) (a : Addr), m[n]? = some (a, false) → m[k]? = some (a, false) → n = k
  at_ : ∀ (n : Nat) (a : Addr × Bool) (so : SO), m[n]? = some a → S[n]? = some so → RO K mg m H so a
  hot : HotH K.hx H
structure RelE (K : KW) (mg : Str → Option Value) (m : Mp) (H : Hp) (σ : L2.St) (ρ : Env) : Prop where
  len : σ.length = ρ.length
  at_ : ∀ (i : Nat) (d : D), ρ[i]? = some (some d) → ∃ v, σ[i]? = some (some v) ∧ Rp K mg m H d v
section
variable {K : KW} {mg : Str → Option Value} {m m' : Mp} {H H' : Hp} {S : Sto} {σ : L2.St} {ρ : Env}
theorem RelE.mono (l : Le m m' H H') (r : RelE K mg m H σ ρ) : RelE K mg m' H' σ ρ :=
  ⟨r.len, fun i d e => let ⟨v, h1, h2⟩ := r.at_ i d e; ⟨v, h1, h2.mono l⟩⟩
theorem RelE.mov (l : Lt m m' H H') (r : RelE K mg m H σ ρ) : RelE K mg m' H' σ ρ :=
  ⟨r.len, fun i d e => let ⟨v, h1, h2⟩ := r.at_ i d e; ⟨v, h1, h2.mov l⟩⟩
theorem RelE.set (r : RelE K mg m H σ ρ) {i : Nat} {d : D} {v : V} (h : Rp K mg m H d v) : RelE K mg m H (σ.set i (some v)) (ρ.set i (some d)) := by
  refine ⟨by rw [List.length_set, List.length_set, r.len], fun j e hj => ?_⟩
  by_cases hij : i = j
  · subst hij
    by_cases hl : i < ρ.length
    · rw [List.getElem?_set_self hl] at hj
      cases hj
      exact ⟨v, by rw [List.getElem?_set_self (by rw [r.len]; exact hl)], h⟩
    · rw [List.getElem?_eq_none (by simpa using hl)] at hj
      cases hj
  · rw [List.getElem?_set_ne hij] at hj
    obtain ⟨w, h1, h2⟩ := r.at_ j e hj
    exact ⟨w, by rw [List.getElem?_set_ne hij]; exact h1, h2⟩
theorem RelE.clear (r : RelE K mg m H σ ρ) (i : Nat) : RelE K mg m H (σ.set i none) (ρ.set i none) := by
  refine ⟨by rw [List.length_set, List.length_set, r.len], fun j e hj => ?_⟩
  by_cases hij : i = j
  · subst hij
    by_cases hl : i < ρ.length
    · rw [List.getElem?_set_self hl] at hj
      cases hj
    · rw [List.getElem?_eq_none (by simpa using hl)] at hj
      cases hj
  · rw [List.getElem?_set_ne hij] at hj
    obtain ⟨w, h1, h2⟩ := r.at_ j e hj
    exact ⟨w, by rw [List.getElem?_set_ne hij]; exact h1, h2⟩
theorem RelE.wipe (r : RelE K mg m H σ ρ) : ∀ vs : List Nat, RelE K mg m H (L2.wipe σ vs) (wipeE ρ vs)
  | [] => r
  | v :: vs => (RelE.wipe r vs).clear v
theorem RelA.seq (r : RelA K mg m H S) {n : Nat} {a : Addr} {b : Bool} {ds : List D} (hm : m[n]? = some (a, b)) (h : lstAt S n = some ds) : ∃ vs, SqL K H a vs ∧ Rps K mg m H ds vs := by
  unfold lstAt at h
  cases q : S[n]? with
  | none => rw [q] at h; cases h
  | some so =>
    rw [q] at h
    have z := r.at_ n (a, b) so hm q
    cases so with
    | lst xs =>
      cases h
      obtain ⟨vs, _, h1, h2⟩ := z
      exact ⟨vs, SqL.of h1, h2⟩
    | frz xs =>
      cases h
      obtain ⟨vs, h1, h2⟩ := z
      exact ⟨vs, h1.sq, h2⟩
    | _ => cases h
theorem RelA.lst (r : RelA K mg m H S) {n : Nat} {a : Addr} {b : Bool} {ds : List D} (hm : m[n]? = some (a, b)) (h : S[n]? = some (.lst ds)) : ∃ vs, H a = some (.lst vs) ∧ Rps K mg m H ds vs := by
  obtain ⟨vs, _, h1, h2⟩ := r.at_ n (a, b) _ hm h
  exact ⟨vs, h1, h2⟩
theorem RelA.seqD (r : RelA K mg m H S) {d : D} {x : V} {ds : List D} (hd : Rp K mg m H d x) (h : lstD S d = some ds) : ∃ a vs, x = .ref a ∧ SqL K H a vs ∧ Rps K mg m H ds vs := by
  cases hd with
  | loc hm =>
    obtain ⟨vs, h1, h2⟩ := r.seq hm h
    exact ⟨_, vs, rfl, h1, h2⟩
  | fl h1 h2 =>
    cases h
    exact ⟨_, _, rfl, .inl (.inr ⟨_, h1⟩), h2⟩
  | _ => cases h
theorem RelA.lstM (r : RelA K mg m H S) {d : D} {x : V} {ds : List D} (hd : Rp K mg m H d x) (h : lstM S d = some ds) : ∃ a vs, x = .ref a ∧ Rd H a (.lst vs) ∧ Rps K mg m H ds vs := by
  cases hd with
  | loc hm =>
    rename_i n a b
    have h' : (match S[n]? with
      | some (.lst ds) => some ds
      | _ => none) = some ds := h
    cases q : S[n]? with
    | none => rw [q] at h'; cases h'
    | some so =>
      rw [q] at h'
      cases so with
      | lst xs =>
        cases h'
        obtain ⟨vs, h1, h2⟩ := r.lst hm q
        exact ⟨_, vs, rfl, .inl h1, h2⟩
      | _ => cases h'
  | fl h1 h2 =>
    cases h
    exact ⟨_, _, rfl, .inr ⟨_, h1⟩, h2⟩
  | _ => cases h
theorem RelA.lstW (r : RelA K mg m H S) {d : D} {x : V} {ds : List D} (hd : Rp K mg m H d x) (h : lstW S d = some ds) : ∃ a vs, x = .ref a ∧ H a = some (.lst vs) ∧ Rps K mg m H ds vs := by
  cases hd with
  | loc hm =>
    rename_i n a b
    have h' : (match S[n]? with
      | some (.lst ds) => some ds
      | _ => none) = some ds := h
    cases q : S[n]? with
    | none => rw [q] at h'; cases h'
    | some so =>
      rw [q] at h'
      cases so with
      | lst xs =>
        cases h'
        obtain ⟨vs, h1, h2⟩ := r.lst hm q
        exact ⟨_, vs, rfl, h1, h2⟩
      | _ => cases h'
  | _ => cases h
theorem sqF_new {p : Addr} {o : HO} (hp : H p = none) {a : Addr × Bool} {xs : List V} (h : SqF K H a xs) : SqF K (upd H p o) a xs := by
  rcases h with ⟨b, z, h⟩ | h
  · exact .inl ⟨b, z, by rw [upd_ne (ne_of_none h hp)]; exact h⟩
  · exact .inr h
theorem RelA.there (r : RelA K mg m H S) {n : Nat} {a : Addr} (hm : m[n]? = some (a, false)) : H a ≠ none := by
  have hn : n < S.length := by rw [← r.len]; exact (List.getElem?_eq_some_iff.mp hm).1
  have z := r.at_ n (a, false) S[n] hm (List.getElem?_eq_getElem hn)
  cases q : S[n] with
  | lst xs =>
    rw [q] at z
    obtain ⟨ws, _, h1, _⟩ := z
    rw [h1]
    simp
  | frz xs =>
    rw [q] at z
    obtain ⟨ws, h1, _⟩ := z
    rcases h1 with ⟨_, o, h1⟩ | ⟨b, _⟩
    · rw [h1]; simp
    · cases b
  | dic _ =>
    rw [q] at z
    obtain ⟨ws, _, h1, _⟩ := z
    rw [h1]
    simp
  | fdic _ =>
    rw [q] at z
    obtain ⟨ws, od, _, h1, _⟩ := z
    rw [h1]
    simp
  | ins _ _ =>
    rw [q] at z
    obtain ⟨ws, _, h1, _⟩ := z
    rw [h1]
    simp
  | dn _ =>
    rw [q] at z
    obtain ⟨ws, _, h1, _⟩ := z
    rw [h1]
    simp
  | fdn _ =>
    rw [q] at z
    obtain ⟨ws, od, _, h1, _⟩ := z
    rw [h1]
    simp
theorem RelA.notin (r : RelA K mg m H S) {a : Addr} (h : H a = none) : (a, false) ∉ m := fun z => by
  obtain ⟨n, hn⟩ := List.mem_iff_getElem?.mp z
  exact r.there hn h
theorem Le.new {p : Addr} {o : HO} (hp : H p = none) : Le m m H (upd H p o) :=
  ⟨fun _ _ h => h, fun _ _ h => by rw [upd_ne (ne_of_none h hp)]; exact h, fun _ _ _ h => by rw [upd_ne (ne_of_none h hp)]; exact h, fun _ _ h _ => by rw [upd_ne (ne_of_none h hp)]; exact h, fun a u h n => ⟨by rw [upd_ne (ne_of_none h hp)]; exact h, n⟩⟩
theorem RO.new {p : Addr} {o : HO} (hp : H p = none) {so : SO} {a : Addr × Bool} (l : Le m m' H (upd H p o)) (h : RO K mg m H so a) : RO K mg m' (upd H p o) so a := by
  cases so with
  | lst ds =>
    obtain ⟨vs, b, h1, h2⟩ := h
    exact ⟨vs, b, by rw [upd_ne (ne_of_none h1 hp)]; exact h1, h2.mono l⟩
  | frz ds =>
    obtain ⟨vs, h1, h2⟩ := h
    exact ⟨vs, sqF_new hp h1, h2.mono l⟩
  | dic _ =>
    obtain ⟨vs, b, h1, h2, h3⟩ := h
    exact ⟨vs, b, by rw [upd_ne (ne_of_none h1 hp)]; exact h1, h2, h3.mono l⟩
  | fdic _ =>
    obtain ⟨vs, od, b, h1, h2, h3⟩ := h
    exact ⟨vs, od, b, by rw [upd_ne (ne_of_none h1 hp)]; exact h1, h2, h3.mono l⟩
  | ins _ _ =>
    obtain ⟨xs, b, h1, h2⟩ := h
    exact ⟨xs, b, by rw [upd_ne (ne_of_none h1 hp)]; exact h1, h2.mov l.lt⟩
  | dn _ =>
    obtain ⟨xs, b, h1, h2⟩ := h
    exact ⟨xs, b, by rw [upd_ne (ne_of_none h1 hp)]; exact h1, h2.mov l.lt⟩
  | fdn _ =>
    obtain ⟨xs, od, b, h1, h2⟩ := h
    exact ⟨xs, od, b, by rw [upd_ne (ne_of_none h1 hp)]; exact h1, h2.mov l.lt⟩
theorem RelA.new (r : RelA K mg m H S) {p : Addr} {o : HO} (hp : H p = none) : RelA K mg m (upd H p o) S :=
  ⟨r.len, r.nd, fun n a so hm hs => (r.at_ n a so hm hs).new hp (Le.new hp), r.hot.mono (Le.new (m := m) hp).fz⟩
theorem Le.alloc {p : Addr} {o : HO} (hp : H p = none) : Le m (m ++ [(p, false)]) H (upd H p o) :=
  ⟨fun n a h => by rw [List.getElem?_append_left (List.getElem?_eq_some_iff.mp h).1]; exact h, fun _ _ h => by rw [upd_ne (ne_of_none h hp)]; exact h, fun _ _ _ h => by rw [upd_ne (ne_of_none h hp)]; exact h, fun _ _ h _ => by rw [upd_ne (ne_of_none h hp)]; exact h,
    fun a u h n => ⟨by rw [upd_ne (ne_of_none h hp)]; exact h, fun z => by
      rcases List.mem_append.mp z with z | z
      · exact n z
      · exact ne_of_none h hp (by simpa using z)⟩⟩
theorem RelA.alloc (r : RelA K mg m H S) {p : Addr} {ds : List D} {vs : List V} (hp : H p = none) (hs : Rps K mg m H ds vs) : RelA K mg (m ++ [(p, false)]) (upd H p (.lst vs)) (S ++ [.lst ds]) := by
  have old : ∀ (n : Nat) (a : Addr × Bool), m[n]? = some a → n < S.length := fun n a h => by rw [← r.len]; exact (List.getElem?_eq_some_iff.mp h).1
  have cases_ : ∀ (n : Nat) (a : Addr × Bool), (m ++ [(p, false)])[n]? = some a → m[n]? = some a ∨ (n = m.length ∧ a = (p, false)) := fun n a h => by
    by_cases hn : n < m.length
    · rw [List.getElem?_append_left hn] at h
      exact .inl h
    · rw [List.getElem?_append_right (by omega)] at h
      have : n - m.length = 0 := by
        cases q : n - m.length with
        | zero => rfl
        | succ j => rw [q] at h; simp at h
      rw [this] at h
      exact .inr ⟨by omega, by simpa using h.symm⟩
  refine ⟨by rw [List.length_append, List.length_append, r.len]; rfl, fun n k a hn hk => ?_, fun n a so hn hso => ?_, r.hot.mono (Le.alloc (m := m) hp).fz⟩
  · rcases cases_ n _ hn with h1 | ⟨h1, e1⟩
    · rcases cases_ k _ hk with h2 | ⟨h2, e2⟩
      · exact r.nd n k a h1 h2
      · cases e2
        exact absurd hp (r.there h1)
    · rcases cases_ k _ hk with h2 | ⟨h2, _⟩
      · cases e1
        exact absurd hp (r.there h2)
      · exact h1.trans h2.symm
  · rcases cases_ n a hn with h1 | ⟨h1, e1⟩
    · rw [List.getElem?_append_left (old n a h1)] at hso
      exact (r.at_ n a so h1 hso).new hp (Le.alloc hp)
    · subst e1
      rw [h1, r.len, List.getElem?_append_right (Nat.le_refl _)] at hso
      have : so = .lst ds := by simpa using hso.symm
      subst this
      exact ⟨vs, rfl, upd_same, hs.mono (Le.alloc hp)⟩
theorem RelA.at_new (r : RelA K mg m H S) (p : Addr) : (m ++ [(p, false)])[S.length]? = some (p, false) := by
  rw [← r.len, List.getElem?_append_right (Nat.le_refl _)]
  simp
theorem Lt.scratch {p : Addr} {xs ys : List V} (h : H p = some (.lst xs)) : Lt m m H (upd H p (.lst ys)) :=
  ⟨fun _ _ z => z, fun b zs z => by rw [upd_ne (fun q => by rw [q, h] at z; cases z)]; exact z, fun b o u z => by rw [upd_ne (fun q => by rw [q, h] at z; cases z)]; exact z, fun b o z i => by rw [upd_ne (fun q => by rw [q, h] at z; cases z; exact i)]; exact z⟩
theorem RelA.scratch (r : RelA K mg m H S) {p : Addr} {xs ys : List V} (h : H p = some (.lst xs)) (hn : (p, false) ∉ m) : RelA K mg m (upd H p (.lst ys)) S :=
  ⟨r.len, r.nd, fun n a so hm hs => by
    have z := r.at_ n a so hm hs
    obtain ⟨a1, a2⟩ := a
    cases so with
    | lst ds =>
      obtain ⟨us, hb, h1, h2⟩ := z
      have hb' : a2 = false := hb
      subst hb'
      have : a1 ≠ p := fun q => hn (q ▸ List.mem_of_getElem? hm)
      exact ⟨us, rfl, by rw [upd_ne this]; exact h1, h2.mov (Lt.scratch h)⟩
    | frz ds =>
      obtain ⟨us, h1, h2⟩ := z
      refine ⟨us, ?_, h2.mov (Lt.scratch h)⟩
      rcases h1 with ⟨hb, o, h1⟩ | h1
      · have : a1 ≠ p := fun q => by
          have h1' : H a1 = some (.frz o (.lst us)) := h1
          rw [q, h] at h1'
          cases h1'
        exact .inl ⟨hb, o, by rw [upd_ne this]; exact h1⟩
      · exact .inr h1
    | ins _ _ =>
      obtain ⟨us, hb, h1, h2⟩ := z
      have hb' : a2 = false := hb
      subst hb'
      have : a1 ≠ p := fun q => hn (q ▸ List.mem_of_getElem? hm)
      exact ⟨us, rfl, by rw [upd_ne this]; exact h1, h2.mov (Lt.scratch h)⟩
    | dn _ =>
      obtain ⟨us, hb, h1, h2⟩ := z
      have hb' : a2 = false := hb
      subst hb'
      have : a1 ≠ p := fun q => hn (q ▸ List.mem_of_getElem? hm)
      exact ⟨us, rfl, by rw [upd_ne this]; exact h1, h2.mov (Lt.scratch h)⟩
    | fdn _ =>
      obtain ⟨us, od, hb, h1, h2⟩ := z
      have hb' : a2 = false := hb
      subst hb'
      have : a1 ≠ p := fun q => hn (q ▸ List.mem_of_getElem? hm)
      exact ⟨us, od, rfl, by rw [upd_ne this]; exact h1, h2.mov (Lt.scratch h)⟩
    | dic _ =>
      obtain ⟨us, hb, h1, h2, h3⟩ := z
      have hb' : a2 = false := hb
      subst hb'
      have : a1 ≠ p := fun q => hn (q ▸ List.mem_of_getElem? hm)
      exact ⟨us, rfl, by rw [upd_ne this]; exact h1, h2, h3.mov (Lt.scratch h)⟩
    | fdic _ =>
      obtain ⟨us, od, hb, h1, h2, h3⟩ := z
      have hb' : a2 = false := hb
      subst hb'
      have : a1 ≠ p := fun q => hn (q ▸ List.mem_of_getElem? hm)
      exact ⟨us, od, rfl, by rw [upd_ne this]; exact h1, h2, h3.mov (Lt.scratch h)⟩, r.hot.mono (Lt.scratch (m := m) h).fz⟩
theorem Le.scratch {m1 m3 : Mp} {H1 H4 : Hp} (l : Le m1 m3 H1 H4) {p : Addr} {o : HO} (hp : H1 p = none) : Le m1 m3 H1 (upd H4 p o) :=
  ⟨l.pre, fun a vs h => by rw [upd_ne (ne_of_none h hp)]; exact l.tup a vs h, fun a o u h => by rw [upd_ne (ne_of_none h hp)]; exact l.fz a o u h, fun a o h i => by rw [upd_ne (ne_of_none h hp)]; exact l.ex a o h i, fun a u h n => by
    obtain ⟨h1, h2⟩ := l.frame a u h n
    exact ⟨by rw [upd_ne (ne_of_none h hp)]; exact h1, h2⟩⟩
theorem RelA.adopt (r : RelA K mg m H S) {p : Addr} {ds : List D} {vs : List V} (h : H p = some (.lst vs)) (hn : (p, false) ∉ m) (hs : Rps K mg m H ds vs) : RelA K mg (m ++ [(p, false)]) H (S ++ [.lst ds]) := by
  have lt : Lt m (m ++ [(p, false)]) H H := ⟨fun n a h => by rw [List.getElem?_append_left (List.getElem?_eq_some_iff.mp h).1]; exact h, fun _ _ h => h, fun _ _ _ h => h, fun _ _ h _ => h⟩
  have old : ∀ (n : Nat) (a : Addr × Bool), m[n]? = some a → n < S.length := fun n a h => by rw [← r.len]; exact (List.getElem?_eq_some_iff.mp h).1
  have cases_ : ∀ (n : Nat) (a : Addr × Bool), (m ++ [(p, false)])[n]? = some a → m[n]? = some a ∨ (n = m.length ∧ a = (p, false)) := fun n a h => by
    by_cases hn : n < m.length
    · rw [List.getElem?_append_left hn] at h
      exact .inl h
    · rw [List.getElem?_append_right (by omega)] at h
      have : n - m.length = 0 := by
        cases q : n - m.length with
        | zero => rfl
        | succ j => rw [q] at h; simp at h
      rw [this] at h
      exact .inr ⟨by omega, by simpa using h.symm⟩
  refine ⟨by rw [List.length_append, List.length_append, r.len]; rfl, fun n k a hn' hk => ?_, fun n a so hn' hso => ?_, r.hot⟩
  · rcases cases_ n _ hn' with h1 | ⟨h1, e1⟩
    · rcases cases_ k _ hk with h2 | ⟨h2, e2⟩
      · exact r.nd n k a h1 h2
      · cases e2
        exact absurd (List.mem_of_getElem? h1) hn
    · rcases cases_ k _ hk with h2 | ⟨h2, _⟩
      · cases e1
        exact absurd (List.mem_of_getElem? h2) hn
      · exact h1.trans h2.symm
  · rcases cases_ n a hn' with h1 | ⟨h1, e1⟩
    · rw [List.getElem?_append_left (old n a h1)] at hso
      have z := r.at_ n a so h1 hso
      cases so with
      | lst xs => obtain ⟨us, b, g1, g2⟩ := z; exact ⟨us, b, g1, g2.mov lt⟩
      | frz xs => obtain ⟨us, g1, g2⟩ := z; exact ⟨us, g1, g2.mov lt⟩
      | ins _ _ => obtain ⟨us, b, g1, g2⟩ := z; exact ⟨us, b, g1, g2.mov lt⟩
      | dn _ => obtain ⟨us, b, g1, g2⟩ := z; exact ⟨us, b, g1, g2.mov lt⟩
      | fdn _ => obtain ⟨us, od, b, g1, g2⟩ := z; exact ⟨us, od, b, g1, g2.mov lt⟩
      | dic _ => obtain ⟨us, b, g1, g2, g3⟩ := z; exact ⟨us, b, g1, g2, g3.mov lt⟩
      | fdic _ => obtain ⟨us, od, b, g1, g2, g3⟩ := z; exact ⟨us, od, b, g1, g2, g3.mov lt⟩
    · subst e1
      rw [h1, r.len, List.getElem?_append_right (Nat.le_refl _)] at hso
      have : so = .lst ds := by simpa using hso.symm
      subst this
      exact ⟨vs, rfl, h, hs.mov lt⟩
theorem Le.write (r : RelA K mg m H S) {n : Nat} {a : Addr} {b : Bool} {ds : List D} {vs ws : List V} (hm : m[n]? = some (a, b)) (hS : S[n]? = some (.lst ds)) (h : H a = some (.lst vs)) : Le m m H (upd H a (.lst ws)) := by
  have ne : ∀ {b : Addr} {o : HO}, H b = some o → o ≠ .lst vs → b ≠ a := fun {b o} e d z => by
    subst z
    rw [h] at e
    exact d (Option.some.inj e).symm
  obtain ⟨_, hb, _⟩ := r.at_ n (a, b) _ hm hS
  have hb' : b = false := hb
  subst hb'
  refine ⟨fun _ _ z => z, fun b xs z => ?_, fun b o u z => ?_, fun b o z i => ?_, fun b o z nb => ⟨?_, nb⟩⟩
  · rw [upd_ne (ne z (fun q => nomatch q))]
    exact z
  · rw [upd_ne (ne z (fun q => nomatch q))]
    exact z
  · rw [upd_ne (ne z (fun q => by rw [q] at i; exact i))]
    exact z
  · have : b ≠ a := fun q => nb (q ▸ List.mem_of_getElem? hm)
    rw [upd_ne this]
    exact z
theorem RelA.write (r : RelA K mg m H S) {n : Nat} {a : Addr} {b : Bool} {ds es : List D} {vs ws : List V} (hm : m[n]? = some (a, b)) (hS : S[n]? = some (.lst ds)) (h : H a = some (.lst vs)) (hs : Rps K mg m H es ws) :
    RelA K mg m (upd H a (.lst ws)) (S.set n (.lst es)) := by
  have hn : n < S.length := (List.getElem?_eq_some_iff.mp hS).1
  have l : Le m m H (upd H a (.lst ws)) := Le.write r hm hS h
  obtain ⟨_, hb, _⟩ := r.at_ n (a, b) _ hm hS
  have hb' : b = false := hb
  subst hb'
  refine ⟨by rw [List.length_set, r.len], r.nd, fun k b so hk hso => ?_, r.hot.mono l.fz⟩
  by_cases e : n = k
  · subst e
    rw [List.getElem?_set_self hn] at hso
    cases hso
    rw [hm] at hk
    cases hk
    exact ⟨ws, rfl, upd_same, hs.mono l⟩
  · rw [List.getElem?_set_ne e] at hso
    have z := r.at_ k b so hk hso
    cases so with
    | lst xs =>
      obtain ⟨us, hb, h1, h2⟩ := z
      obtain ⟨b1, b2⟩ := b
      have hb' : b2 = false := hb
      subst hb'
      have : b1 ≠ a := fun q => by
        subst q
        exact e (r.nd n k b1 hm hk)
      exact ⟨us, rfl, by rw [upd_ne this]; exact h1, h2.mono l⟩
    | frz xs =>
      obtain ⟨us, h1, h2⟩ := z
      refine ⟨us, ?_, h2.mono l⟩
      rcases h1 with ⟨hb, o, h1⟩ | h1
      · have : b.1 ≠ a := fun q => by
          rw [q, h] at h1
          cases h1
        exact .inl ⟨hb, o, by rw [upd_ne this]; exact h1⟩
      · exact .inr h1
    | ins _ _ =>
      obtain ⟨us, hb, h1, h2⟩ := z
      obtain ⟨b1, b2⟩ := b
      have hb' : b2 = false := hb
      subst hb'
      have : b1 ≠ a := fun q => by
        subst q
        exact e (r.nd n k b1 hm hk)
      exact ⟨us, rfl, by rw [upd_ne this]; exact h1, h2.mov l.lt⟩
    | dn _ =>
      obtain ⟨us, hb, h1, h2⟩ := z
      obtain ⟨b1, b2⟩ := b
      have hb' : b2 = false := hb
      subst hb'
      have : b1 ≠ a := fun q => by
        subst q
        exact e (r.nd n k b1 hm hk)
      exact ⟨us, rfl, by rw [upd_ne this]; exact h1, h2.mov l.lt⟩
    | fdn _ =>
      obtain ⟨us, od, hb, h1, h2⟩ := z
      obtain ⟨b1, b2⟩ := b
      have hb' : b2 = false := hb
      subst hb'
      have : b1 ≠ a := fun q => by
        subst q
        exact e (r.nd n k b1 hm hk)
      exact ⟨us, od, rfl, by rw [upd_ne this]; exact h1, h2.mov l.lt⟩
    | dic _ =>
      obtain ⟨us, hb, h1, h2, h3⟩ := z
      obtain ⟨b1, b2⟩ := b
      have hb' : b2 = false := hb
      subst hb'
      have : b1 ≠ a := fun q => by
        subst q
        exact e (r.nd n k b1 hm hk)
      exact ⟨us, rfl, by rw [upd_ne this]; exact h1, h2, h3.mono l⟩
    | fdic xs =>
      obtain ⟨us, od, hb, h1, h2, h3⟩ := z
      obtain ⟨b1, b2⟩ := b
      have hb' : b2 = false := hb
      subst hb'
      have : b1 ≠ a := fun q => by
        subst q
        exact e (r.nd n k b1 hm hk)
      exact ⟨us, od, rfl, by rw [upd_ne this]; exact h1, h2, h3.mono l⟩
def OwnO : HO → Prop
  | .lst _ => True
  | .dK _ => True
  | .ext _ => True
  | .ins _ _ _ => True
  | _ => False
theorem Le.writeO {n : Nat} {a : Addr} {o o' : HO} (hm : m[n]? = some (a, false)) (h : H a = some o) (ho : OwnO o) : Le m m H (upd H a o') := by
  refine ⟨fun _ _ z => z, fun b xs z => ?_, fun b o u z => ?_, fun b u z i => by
    have : b ≠ a := fun q => by
      subst q
      rw [h] at z
      cases z
      cases o <;> first | exact i.elim | exact ho.elim
    rw [upd_ne this]
    exact z, fun b u z nb => ⟨?_, nb⟩⟩
  · have : b ≠ a := fun q => by
      subst q
      rw [h] at z
      cases z
      exact ho
    rw [upd_ne this]
    exact z
  · have : b ≠ a := fun q => by
      subst q
      rw [h] at z
      cases z
      exact ho
    rw [upd_ne this]
    exact z
  · have : b ≠ a := fun q => nb (q ▸ List.mem_of_getElem? hm)
    rw [upd_ne this]
    exact z
theorem RelA.writeO (r : RelA K mg m H S) {n : Nat} {a : Addr} {o o' : HO} {so : SO} (hm : m[n]? = some (a, false)) (h : H a = some o) (ho : OwnO o) (new : RO K mg m (upd H a o') so (a, false)) : RelA K mg m (upd H a o') (S.set n so) := by
  have hn : n < S.length := by rw [← r.len]; exact (List.getElem?_eq_some_iff.mp hm).1
  have l : Le m m H (upd H a o') := Le.writeO hm h ho
  refine ⟨by rw [List.length_set, r.len], r.nd, fun k b so' hk hso => ?_, r.hot.mono l.fz⟩
  by_cases e : n = k
  · subst e
    rw [List.getElem?_set_self hn] at hso
    cases hso
    rw [hm] at hk
    cases hk
    exact new
  · rw [List.getElem?_set_ne e] at hso
    have z := r.at_ k b so' hk hso
    cases so' with
    | lst xs =>
      obtain ⟨us, hb, h1, h2⟩ := z
      obtain ⟨b1, b2⟩ := b
      have hb' : b2 = false := hb
      subst hb'
      have : b1 ≠ a := fun q => by
        subst q
        exact e (r.nd n k b1 hm hk)
      exact ⟨us, rfl, by rw [upd_ne this]; exact h1, h2.mono l⟩
    | ins _ _ =>
      obtain ⟨us, hb, h1, h2⟩ := z
      obtain ⟨b1, b2⟩ := b
      have hb' : b2 = false := hb
      subst hb'
      have : b1 ≠ a := fun q => by
        subst q
        exact e (r.nd n k b1 hm hk)
      exact ⟨us, rfl, by rw [upd_ne this]; exact h1, h2.mov l.lt⟩
    | dn _ =>
      obtain ⟨us, hb, h1, h2⟩ := z
      obtain ⟨b1, b2⟩ := b
      have hb' : b2 = false := hb
      subst hb'
      have : b1 ≠ a := fun q => by
        subst q
        exact e (r.nd n k b1 hm hk)
      exact ⟨us, rfl, by rw [upd_ne this]; exact h1, h2.mov l.lt⟩
    | fdn _ =>
      obtain ⟨us, od, hb, h1, h2⟩ := z
      obtain ⟨b1, b2⟩ := b
      have hb' : b2 = false := hb
      subst hb'
      have : b1 ≠ a := fun q => by
        subst q
        exact e (r.nd n k b1 hm hk)
      exact ⟨us, od, rfl, by rw [upd_ne this]; exact h1, h2.mov l.lt⟩
    | dic xs =>
      obtain ⟨us, hb, h1, h2, h3⟩ := z
      obtain ⟨b1, b2⟩ := b
      have hb' : b2 = false := hb
      subst hb'
      have : b1 ≠ a := fun q => by
        subst q
        exact e (r.nd n k b1 hm hk)
      exact ⟨us, rfl, by rw [upd_ne this]; exact h1, h2, h3.mono l⟩
    | frz xs =>
      obtain ⟨us, h1, h2⟩ := z
      refine ⟨us, ?_, h2.mono l⟩
      rcases h1 with ⟨hb, o1, h1⟩ | h1
      · have : b.1 ≠ a := fun q => by
          rw [q, h] at h1
          cases h1
          exact ho
        exact .inl ⟨hb, o1, by rw [upd_ne this]; exact h1⟩
      · exact .inr h1
    | fdic xs =>
      obtain ⟨us, od, hb, h1, h2, h3⟩ := z
      obtain ⟨b1, b2⟩ := b
      have hb' : b2 = false := hb
      subst hb'
      have : b1 ≠ a := fun q => by
        subst q
        exact e (r.nd n k b1 hm hk)
      exact ⟨us, od, rfl, by rw [upd_ne this]; exact h1, h2, h3.mono l⟩
theorem RelA.allocO (r : RelA K mg m H S) {p : Addr} {o : HO} {so : SO} (hp : H p = none) (new : RO K mg (m ++ [(p, false)]) (upd H p o) so (p, false)) : RelA K mg (m ++ [(p, false)]) (upd H p o) (S ++ [so]) := by
  have old : ∀ (n : Nat) (a : Addr × Bool), m[n]? = some a → n < S.length := fun n a h => by rw [← r.len]; exact (List.getElem?_eq_some_iff.mp h).1
  have cases_ : ∀ (n : Nat) (a : Addr × Bool), (m ++ [(p, false)])[n]? = some a → m[n]? = some a ∨ (n = m.length ∧ a = (p, false)) := fun n a h => by
    by_cases hn : n < m.length
    · rw [List.getElem?_append_left hn] at h
      exact .inl h
    · rw [List.getElem?_append_right (by omega)] at h
      have : n - m.length = 0 := by
        cases q : n - m.length with
        | zero => rfl
        | succ j => rw [q] at h; simp at h
      rw [this] at h
      exact .inr ⟨by omega, by simpa using h.symm⟩
  have hn0 := r.notin hp
  refine ⟨by rw [List.length_append, List.length_append, r.len]; rfl, fun n k a hn' hk => ?_, fun n a so' hn' hso => ?_, r.hot.mono (Le.alloc (m := m) hp).fz⟩
  · rcases cases_ n _ hn' with h1 | ⟨h1, e1⟩
    · rcases cases_ k _ hk with h2 | ⟨h2, e2⟩
      · exact r.nd n k a h1 h2
      · cases e2
        exact absurd (List.mem_of_getElem? h1) hn0
    · rcases cases_ k _ hk with h2 | ⟨h2, _⟩
      · cases e1
        exact absurd (List.mem_of_getElem? h2) hn0
      · exact h1.trans h2.symm
  · rcases cases_ n a hn' with h1 | ⟨h1, e1⟩
    · rw [List.getElem?_append_left (old n a h1)] at hso
      exact (r.at_ n a so' h1 hso).new hp (Le.alloc hp)
    · subst e1
      rw [h1, r.len, List.getElem?_append_right (Nat.le_refl _)] at hso
      have : so' = so := by simpa using hso.symm
      subst this
      exact new
end
def RpX (K : KW) (mg : Str → Option Value) (m : Mp) (H : Hp) (c : Nat) (p : List D) (cls : Value) (dd : Option Addr) : Prop := ∃ x a vs, exNames[c]? = some x ∧ mg x = some (.ref a) ∧ cls = .ref a ∧ XFld H c dd vs ∧ Rps K mg m H p vs
def Post {α β : Type} (K : KW) (mg : Str → Option Value) (W : XK) (rel : Mp → Hp → α → β → Prop) (m : Mp) (H : Hp) (r : R α) (Q : β → Hp → Prop) : Prop := match r with
  | .ok d S => ∀ m' H' v, Le m m' H H' → RelA K mg m' H' S → rel m' H' d v → Q v H'
  | .exc c p S => ∀ m' H' cls dd, Le m m' H H' → RelA K mg m' H' S → RpX K mg m' H' c p cls dd → W cls dd H'
  | .bad => False
section
variable {K : KW} {mg : Str → Option Value} {W : XK} {m m1 : Mp} {H H1 : Hp}
theorem Post.move {α β : Type} {rel : Mp → Hp → α → β → Prop} {r : R α} {Q : β → Hp → Prop} (l : Le m m1 H H1) (h : Post K mg W rel m H r Q) : Post K mg W rel m1 H1 r Q := by
  cases r with
  | ok d S => exact fun m' H' v l' ra rp => h m' H' v (l.trans l') ra rp
  | exc c p S => exact fun m' H' cls dd l' ra rx => h m' H' cls dd (l.trans l') ra rx
  | bad => exact h
theorem Post.bind {α β γ δ : Type} {rel : Mp → Hp → α → β → Prop} {rel1 : Mp → Hp → γ → δ → Prop} {r : R γ} {f : γ → Sto → R α} {Q : β → Hp → Prop} (h : Post K mg W rel m H (r.bind f) Q) :
    Post K mg W rel1 m H r (fun v H1 => ∃ m1 d S1, Le m m1 H H1 ∧ RelA K mg m1 H1 S1 ∧ rel1 m1 H1 d v ∧ Post K mg W rel m1 H1 (f d S1) Q) := by
  cases r with
  | ok d S => exact fun m' H' v l' ra rp => ⟨m', d, S, l', ra, rp, Post.move l' h⟩
  | exc c p S => exact h
  | bad => exact h
theorem Post.imp {α β : Type} {rel : Mp → Hp → α → β → Prop} {r : R α} {Q Q' : β → Hp → Prop} (h : Post K mg W rel m H r Q) (i : ∀ v H', Q v H' → Q' v H') : Post K mg W rel m H r Q' := by
  cases r with
  | ok d S => exact fun m' H' v l ra rp => i _ _ (h m' H' v l ra rp)
  | exc c p S => exact h
  | bad => exact h
theorem Post.now {α β : Type} {rel : Mp → Hp → α → β → Prop} {d : α} {S : Sto} {Q : β → Hp → Prop} (h : Post K mg W rel m H (.ok d S) Q) (ra : RelA K mg m H S) {v : β} (rp : rel m H d v) : Q v H := h m H v (Le.refl m H) ra rp
end
mutual
theorem nD_lt {k : Nat} : ∀ x : NestedKey, (nD x).lt k = true
  | .none => by simp [nD]
  | .num _ => by simp [nD]
  | .text _ => by simp [nD]
  | .tup ks => by rw [nD, lt_tup]; exact List.all_eq_true.mpr (nDs_lt ks)
theorem nDs_lt {k : Nat} : ∀ xs : List NestedKey, ∀ d ∈ nDs xs, d.lt k = true
  | [], d, h => by cases h
  | x :: xs, d, h => by
    rw [nDs] at h
    rcases List.mem_cons.mp h with rfl | h
    · exact nD_lt x
    · exact nDs_lt xs d h
end
section
variable {K : KW} {mg : Str → Option Value} {m m' : Mp} {H H' : Hp} {S S' : Sto}
mutual
theorem Rp.take (k : Nat) : ∀ {d : D} {v : V}, Rp K mg m H d v → d.lt k = true → Rp K mg (m.take k) H d v
  | _, _, .non, _ => .non
  | _, _, .bl b, _ => .bl b
  | _, _, .int i, _ => .int i
  | _, _, .str x, _ => .str x
  | _, _, .ty t, _ => .ty t
  | _, _, .fn h, _ => .fn h
  | _, _, .tup h hs, q => .tup h (Rps.take2 k hs (by simpa using q))
  | _, _, .loc h, q => .loc (by rw [lt_loc] at q; rw [List.getElem?_take_of_lt (of_decide_eq_true q)]; exact h)
  | _, _, .fl h hs, q => .fl h (Rps.take2 k hs (by simpa using q))
  | _, _, .fd h hk hs, q => .fd h hk (Rps.take2 k hs (by simpa using q))
  | _, _, .fm h hk hq hs, q => .fm h hk (Rps.take2 k hq (nDs_lt _)) (Rps.take2 k hs (by simpa using q))
  | _, _, .bd h hs, q => .bd h (Rps.take2 k hs (by simpa using q))
  | _, _, .bm h hk hq hs, q => by
    rw [lt_bd] at q
    simp only [ltL, List.all_cons, Bool.and_eq_true, lt_tup] at q
    exact .bm h hk (Rps.take2 k hq fun d hd => List.all_eq_true.mp q.1 d hd) (Rps.take2 k hs fun d hd => List.all_eq_true.mp q.2.1 d hd)
  | _, _, .exn h1 h2 h hf hs, q => .exn h1 h2 h hf (Rps.take2 k hs (by simpa using q))
  | _, _, .cls h1 h2, _ => .cls h1 h2
theorem Rps.take2 (k : Nat) : ∀ {ds : List D} {vs : List V}, Rps K mg m H ds vs → (∀ d ∈ ds, d.lt k = true) → Rps K mg (m.take k) H ds vs
  | _, _, .nil, _ => .nil
  | _, _, .cons h hs, q => .cons (Rp.take k h (q _ List.mem_cons_self)) (Rps.take2 k hs fun d hd => q d (List.mem_cons_of_mem _ hd))
end
mutual
theorem Rp.bel : ∀ {d : D} {v : V}, Rp K mg m H d v → d.lt m.length = true
  | _, _, .non => lt_non
  | _, _, .bl b => lt_bl
  | _, _, .int i => lt_int
  | _, _, .str x => lt_str
  | _, _, .ty t => lt_ty
  | _, _, .fn h => lt_fn
  | _, _, .tup h hs => by rw [lt_tup]; exact Rps.bel hs
  | _, _, .loc h => by rw [lt_loc]; exact decide_eq_true (List.getElem?_eq_some_iff.mp h).1
  | _, _, .fl h hs => by rw [lt_fl]; exact Rps.bel hs
  | _, _, .fd h hk hs => by rw [lt_fd]; exact Rps.bel hs
  | _, _, .fm h hk hq hs => by rw [lt_fm]; exact Rps.bel hs
  | _, _, .bd h hs => by rw [lt_bd]; exact Rps.bel hs
  | _, _, .bm h hk hq hs => by
    have h1 := Rps.bel hq
    have h2 := Rps.bel hs
    rw [lt_bd]
    simp only [ltL, List.all_cons, Bool.and_eq_true, lt_tup]
    exact ⟨h1, h2, lt_non, rfl⟩
  | _, _, .exn h1 h2 h hf hs => by rw [lt_exn]; exact Rps.bel hs
  | _, _, .cls h1 h2 => lt_cls
theorem Rps.bel : ∀ {ds : List D} {vs : List V}, Rps K mg m H ds vs → ltL m.length ds = true
  | _, _, .nil => rfl
  | _, _, .cons h hs => by
    show (_ :: _).all _ = true
    rw [List.all_cons, Rp.bel h]
    exact Rps.bel hs
end
theorem Rps.takeL {k : Nat} {ds : List D} {vs : List V} (h : Rps K mg m H ds vs) (q : ltL k ds = true) : Rps K mg (m.take k) H ds vs := Rps.take2 k h (List.all_eq_true.mp q)
theorem RpX.take {k c : Nat} {p : List D} {cls : Value} {dd : Option Addr} (h : RpX K mg m H c p cls dd) (q : ltL k p = true) : RpX K mg (m.take k) H c p cls dd := by
  obtain ⟨x, a, vs, h1, h2, h3, h4, h5⟩ := h
  exact ⟨x, a, vs, h1, h2, h3, h4, h5.takeL q⟩
theorem RO.bel {so : SO} {a : Addr × Bool} (h : RO K mg m H so a) : so.lt m.length = true := by
  cases so with
  | lst ds => obtain ⟨vs, _, _, h⟩ := h; exact h.bel
  | frz ds => obtain ⟨vs, _, h⟩ := h; exact h.bel
  | dic kvs => obtain ⟨vs, _, _, h⟩ := h; exact h.2.bel
  | fdic kvs => obtain ⟨vs, _, _, _, h⟩ := h; exact h.2.bel
  | ins _ _ => obtain ⟨vs, _, _, h⟩ := h; exact h.2.2.bel
  | dn kvs => obtain ⟨vs, _, _, h⟩ := h; exact h.2.2.bel
  | fdn kvs => obtain ⟨vs, _, _, _, h⟩ := h; exact h.2.2.bel
theorem RO.take {so : SO} {a : Addr × Bool} {k : Nat} (h : RO K mg m H so a) (q : so.lt k = true) : RO K mg (m.take k) H so a := by
  cases so with
  | lst ds => obtain ⟨vs, b, c, h⟩ := h; exact ⟨vs, b, c, h.takeL q⟩
  | frz ds => obtain ⟨vs, b, h⟩ := h; exact ⟨vs, b, h.takeL q⟩
  | dic kvs => obtain ⟨vs, b, c, h⟩ := h; exact ⟨vs, b, c, h.1, h.2.takeL q⟩
  | fdic kvs => obtain ⟨vs, o, b, c, h⟩ := h; exact ⟨vs, o, b, c, h.1, h.2.takeL q⟩
  | ins _ _ => obtain ⟨vs, b, c, h⟩ := h; exact ⟨vs, b, c, h.1, h.2.1, h.2.2.takeL q⟩
  | dn kvs => obtain ⟨vs, b, c, h⟩ := h; exact ⟨vs, b, c, h.1, Rps.take2 k h.2.1 (nDs_lt _), h.2.2.takeL q⟩
  | fdn kvs => obtain ⟨vs, o, b, c, h⟩ := h; exact ⟨vs, o, b, c, h.1, Rps.take2 k h.2.1 (nDs_lt _), h.2.2.takeL q⟩
theorem take_of {α : Type} {l : List α} {k n : Nat} {a : α} (h : (l.take k)[n]? = some a) : n < k ∧ l[n]? = some a := by
  have hn : n < (l.take k).length := (List.getElem?_eq_some_iff.mp h).1
  rw [List.length_take] at hn
  have : n < k := by omega
  rw [List.getElem?_take_of_lt this] at h
  exact ⟨this, h⟩
theorem Le.cut (l : Le m m' H H') : Le m (m'.take m.length) H H' :=
  ⟨fun n a h => by rw [List.getElem?_take_of_lt (List.getElem?_eq_some_iff.mp h).1]; exact l.pre n a h, l.tup, l.fz, l.ex, fun a o h n => ⟨(l.frame a o h n).1, fun z => (l.frame a o h n).2 (List.mem_of_mem_take z)⟩⟩
theorem RelA.cut (r : RelA K mg m H S) (l : Le m m' H H') (r' : RelA K mg m' H' S') (k : keepS S S') : RelA K mg (m'.take m.length) H' (S'.take S.length) := by
  refine ⟨by rw [List.length_take, List.length_take, r'.len, r.len], fun n k a h1 h2 => r'.nd n k a (take_of h1).2 (take_of h2).2, fun n a so h1 h2 => ?_, r'.hot⟩
  obtain ⟨hn, h1⟩ := take_of h1
  obtain ⟨hn2, h2⟩ := take_of h2
  refine (r'.at_ n a so h1 h2).take ?_
  rw [r.len]
  rcases k n so hn2 h2 with e | e
  · have h3 : m[n]? = some a := by
      cases q : m[n]? with
      | none => exact absurd (List.getElem?_eq_none_iff.mp q) (by omega)
      | some b =>
        rw [l.pre n b q] at h1
        exact h1
    have := (r.at_ n a so h3 e).bel
    rw [r.len] at this
    exact this
  · exact e
theorem Post.trim {W : XK} {r : R D} {Q : VK} (ra : RelA K mg m H S) (h : Post K mg W (Rp K mg) m H (trim S r) Q) : Post K mg W (Rp K mg) m H r Q := by
  cases r with
  | bad => exact h
  | ok d S' =>
    intro m' H' v l ra' rp
    have h' : Post K mg W (Rp K mg) m H (.ok d (cutS S (d.lt S.length) S')) Q := h
    unfold cutS at h'
    by_cases c : d.lt S.length = true ∧ keepS S S'
    · rw [if_pos c] at h'
      exact h' (m'.take m.length) H' v l.cut (ra.cut l ra' c.2) (rp.take _ (by rw [ra.len]; exact c.1))
    · rw [if_neg c] at h'
      exact h' m' H' v l ra' rp
  | exc cc p S' =>
    intro m' H' cls dd l ra' rp
    have h' : Post K mg W (Rp K mg) m H (.exc cc p (cutS S (ltL S.length p) S')) Q := h
    unfold cutS at h'
    by_cases c : ltL S.length p = true ∧ keepS S S'
    · rw [if_pos c] at h'
      exact h' (m'.take m.length) H' cls dd l.cut (ra.cut l ra' c.2) (rp.take (by rw [ra.len]; exact c.1))
    · rw [if_neg c] at h'
      exact h' m' H' cls dd l ra' rp
end
section
variable {f : PySem.W.Frag} {w : World} {x y : Option Addr} {mg : Str → Option Value} {m : Mp} {H : Hp}
mutual
theorem Rp.kw : ∀ {d : D} {v : V}, Rp ⟨f, w, x⟩ mg m H d v → Rp ⟨f, w, y⟩ mg m H d v
  | _, _, .non => .non
  | _, _, .bl b => .bl b
  | _, _, .int i => .int i
  | _, _, .str x => .str x
  | _, _, .ty t => .ty t
  | _, _, .fn h => .fn h
  | _, _, .tup h hs => .tup h (Rps.kw hs)
  | _, _, .loc h => .loc h
  | _, _, .fl h hs => .fl h (Rps.kw hs)
  | _, _, .fd h hk hs => .fd h hk (Rps.kw hs)
  | _, _, .fm h hk hq hs => .fm h hk (Rps.kw hq) (Rps.kw hs)
  | _, _, .bd h hs => .bd h (Rps.kw hs)
  | _, _, .bm h hk hq hs => .bm h hk (Rps.kw hq) (Rps.kw hs)
  | _, _, .exn h1 h2 h hf hs => .exn h1 h2 h hf (Rps.kw hs)
  | _, _, .cls h1 h2 => .cls h1 h2
theorem Rps.kw : ∀ {ds : List D} {vs : List V}, Rps ⟨f, w, x⟩ mg m H ds vs → Rps ⟨f, w, y⟩ mg m H ds vs
  | _, _, .nil => .nil
  | _, _, .cons h hs => .cons (Rp.kw h) (Rps.kw hs)
end
theorem RO.kw {so : SO} {a : Addr × Bool} (h : RO ⟨f, w, x⟩ mg m H so a) : RO ⟨f, w, y⟩ mg m H so a := by
  cases so with
  | lst ds => obtain ⟨vs, b, c, h⟩ := h; exact ⟨vs, b, c, h.kw⟩
  | frz ds => obtain ⟨vs, b, h⟩ := h; exact ⟨vs, b, h.kw⟩
  | dic kvs => obtain ⟨vs, b, c, h⟩ := h; exact ⟨vs, b, c, h.1, h.2.kw⟩
  | fdic kvs => obtain ⟨vs, o, b, c, h⟩ := h; exact ⟨vs, o, b, c, h.1, h.2.kw⟩
  | ins _ _ => obtain ⟨vs, b, c, h⟩ := h; exact ⟨vs, b, c, h.1, h.2.1, h.2.2.kw⟩
  | dn kvs => obtain ⟨vs, b, c, h⟩ := h; exact ⟨vs, b, c, h.1, h.2.1.kw, h.2.2.kw⟩
  | fdn kvs => obtain ⟨vs, o, b, c, h⟩ := h; exact ⟨vs, o, b, c, h.1, h.2.1.kw, h.2.2.kw⟩
theorem RelA.kw {S : Sto} (h : RelA ⟨f, w, x⟩ mg m H S) (hy : HotH y H) : RelA ⟨f, w, y⟩ mg m H S := ⟨h.len, h.nd, fun n a so h1 h2 => (h.at_ n a so h1 h2).kw, hy⟩
theorem RelE.kw {σ : L2.St} {ρ : Env} (h : RelE ⟨f, w, x⟩ mg m H σ ρ) : RelE ⟨f, w, y⟩ mg m H σ ρ := ⟨h.len, fun i d e => let ⟨v, h1, h2⟩ := h.at_ i d e; ⟨v, h1, h2.kw⟩⟩
theorem RpX.kw {c : Nat} {p : List D} {cls : Value} {dd : Option Addr} (h : RpX ⟨f, w, x⟩ mg m H c p cls dd) : RpX ⟨f, w, y⟩ mg m H c p cls dd := by
  obtain ⟨x, a, vs, h1, h2, h3, h4, h5⟩ := h
  exact ⟨x, a, vs, h1, h2, h3, h4, h5.kw⟩
end
end CC
namespace CC
open PySem PySem.Spec PyProof.Rows L2
def bnames : List Str := ["len", "abs", "sum", "min", "max", "all", "any", "sorted", "repr", "int", "str", "list", "tuple", "set", "isinstance", "range", "zip", "enumerate", "bool", "dict", "ValueError"]
def WarmA (A : Around) : Prop := A.handled = none ∨ ∃ a : Addr, A.handled = some (.ref a)
structure Ctx (cb : Bool) (X : Cx) : Prop where
  calm : cb = true → X.calm = true
  hu : X.A.units + 100 < cLine
  nd : X.N.Nodup
  g : X.A.guards = some []
  nob : ∀ x ∈ bnames, X.mg x = none
  wm : WarmA X.A
section
variable {X : Cx}
theorem PE_imp {e : Expr} {t t' : TE} (h : PE X e t) (i : ∀ σ H Q, t' σ H Q → t σ H Q) : PE X e t' := ⟨fun pins s σ H Q I q => h.run pins s σ H Q I (i σ H Q q)⟩
theorem PT_imp {e : Expr} {t t' : TT} (h : PT X e t) (i : ∀ σ H Q, t' σ H Q → t σ H Q) : PT X e t' := ⟨fun pins s σ H Q I q => h.run pins s σ H Q I (i σ H Q q)⟩
theorem PW_imp {e : Expr} {t t' : TT} (h : PW X e t) (i : ∀ σ H Q, t' σ H Q → t σ H Q) : PW X e t' := ⟨fun wh pins s σ H Q I q => h.run wh pins s σ H Q I (i σ H Q q)⟩
theorem PA_imp {e : List Expr} {t t' : TA} (h : PA X e t) (i : ∀ σ H Q, t' σ H Q → t σ H Q) : PA X e t' := ⟨fun pos pins s σ H Q I q => h.run pos pins s σ H Q I (i σ H Q q)⟩
theorem PK_imp {e : List Keyword} {t t' : TA} (h : PK X e t) (i : ∀ σ H Q, t' σ H Q → t σ H Q) : PK X e t' := ⟨fun pos pins s σ H Q I q => h.run pos pins s σ H Q I (i σ H Q q)⟩
theorem PO_imp {e : Option Expr} {t t' : TO} (h : PO X e t) (i : ∀ σ H Q, t' σ H Q → t σ H Q) : PO X e t' := ⟨fun pins s σ H Q I q => h.run pins s σ H Q I (i σ H Q q)⟩
theorem PI_imp {tg e : Expr} {t t' : TI} (h : PI X tg e t) (i : ∀ σ H Q, t' σ H Q → t σ H Q) : PI X tg e t' := ⟨fun pins s σ H Q I q => h.run pins s σ H Q I (i σ H Q q)⟩
theorem PS_imp {e : Stmt} {t t' : TS} (h : PS X e t) (i : ∀ D σ H, t' D σ H → t D σ H) : PS X e t' := ⟨fun pins s σ H D I q => h.run pins s σ H D I (i D σ H q)⟩
theorem PSs_imp {e : List Stmt} {t t' : TS} (h : PSs X e t) (i : ∀ D σ H, t' D σ H → t D σ H) : PSs X e t' := ⟨fun pins s σ H D I q => h.run pins s σ H D I (i D σ H q)⟩
theorem PE_never {e : Expr} {t : TE} (h : ∀ σ H Q, ¬ t σ H Q) : PE X e t := ⟨fun _ _ σ H Q _ q => (h σ H Q q).elim⟩
end
section
variable {K : KW} {mg : Str → Option Value} {m : Mp} {H : Hp} {S : Sto}
theorem toPs_dp (f : D → Option PyData) (hf : ∀ d v p, Rp K mg m H d v → f d = some p → Dp K H v p) : ∀ {ds : List D} {vs : List V} {ps : List PyData}, Rps K mg m H ds vs → ds.mapM f = some ps → DpAll K H vs ps
  | _, _, ps, .nil, e => by
    rw [List.mapM_nil] at e
    cases e
    exact .nil
  | d :: ds, v :: vs, ps, .cons h hs, e => by
    rw [List.mapM_cons] at e
    cases q : f d with
    | none => rw [q] at e; cases e
    | some p =>
      rw [q] at e
      cases q2 : ds.mapM f with
      | none => rw [q2] at e; cases e
      | some r =>
        rw [q2] at e
        cases e
        exact .cons (hf d v p h q) (toPs_dp f hf hs q2)
theorem toP_dp (ra : RelA K mg m H S) : ∀ (n : Nat) (d : D) (v : V) (p : PyData), Rp K mg m H d v → toP S n d = some p → Dp K H v p
  | n, _, _, p, .non, e => by cases n <;> (cases e; exact .non)
  | n, _, _, p, .bl b, e => by cases n <;> (cases e; exact .bl b)
  | n, _, _, p, .int i, e => by cases n <;> (cases e; exact .int i)
  | n, _, _, p, .str x, e => by cases n <;> (cases e; exact .str x)
  | n, _, _, p, .ty t, e => by cases n <;> cases e
  | n, _, _, p, .fn h, e => by cases n <;> cases e
  | 0, _, _, p, .tup h hs, e => by cases e
  | 0, _, _, p, .loc h, e => by cases e
  | 0, _, _, p, .fl h hs, e => by cases e
  | n, _, _, p, .fd h hk hs, e => by cases n <;> cases e
  | n, _, _, p, .fm h hk hq hs, e => by cases n <;> cases e
  | n, _, _, p, .bd h hs, e => by cases n <;> cases e
  | n, _, _, p, .bm h hk hq hs, e => by cases n <;> cases e
  | n, _, _, p, .exn h1 h2 h hf hs, e => by cases n <;> cases e
  | n, _, _, p, .cls h1 h2, e => by cases n <;> cases e
  | n + 1, _, _, p, .tup (ds := ds) h hs, e => by
    unfold toP at e
    cases q : ds.mapM (toP S n) with
    | none => rw [q] at e; cases e
    | some ps =>
      rw [q] at e
      cases e
      exact .tup h.t (toPs_dp (toP S n) (fun d v p r z => toP_dp ra n d v p r z) hs q)
  | n + 1, _, _, p, .fl (ds := ds) h hs, e => by
    unfold toP at e
    cases q : ds.mapM (toP S n) with
    | none => rw [q] at e; cases e
    | some ps =>
      rw [q] at e
      cases e
      exact .lst (.inl (.inr ⟨_, h⟩)) (toPs_dp (toP S n) (fun d v p r z => toP_dp ra n d v p r z) hs q)
  | n + 1, _, _, p, .loc (n := k) h, e => by
    unfold toP at e
    cases q0 : lstAt S k with
    | none => rw [q0] at e; cases e
    | some ds =>
      rw [q0] at e
      obtain ⟨vs, h1, h2⟩ := ra.seq h q0
      cases q : ds.mapM (toP S n) with
      | none =>
        have e' : (ds.mapM (toP S n)).map PyData.list = some p := e
        rw [q] at e'; cases e'
      | some ps =>
        have e' : (ds.mapM (toP S n)).map PyData.list = some p := e
        rw [q] at e'
        cases e'
        exact .lst h1 (toPs_dp (toP S n) (fun d v p r z => toP_dp ra n d v p r z) h2 q)
theorem eqD_ok (ra : RelA K mg m H S) {d e : D} {x y : V} {b : Bool} (rx : Rp K mg m H d x) (ry : Rp K mg m H e y) (h : eqD d e S = some b) :
    ∃ p q, Dp K H x p ∧ Dp K H y q ∧ SeqAt.shaped p = true ∧ SeqAt.shaped q = true ∧ b = PyData.eqv p q := by
  unfold eqD at h
  cases h1 : toP S 50 d with
  | none => rw [h1] at h; cases h
  | some p =>
    rw [h1] at h
    cases h2 : toP S 50 e with
    | none => rw [h2] at h; cases h
    | some q =>
      rw [h2] at h
      have h' : (if SeqAt.shaped p && SeqAt.shaped q then some (PyData.eqv p q) else none) = some b := h
      by_cases c : (SeqAt.shaped p && SeqAt.shaped q) = true
      · rw [if_pos c] at h'
        cases h'
        obtain ⟨c1, c2⟩ := Bool.and_eq_true_iff.mp c
        exact ⟨p, q, toP_dp ra 50 d x p rx h1, toP_dp ra 50 e y q ry h2, c1, c2, rfl⟩
      · rw [if_neg c] at h'
        cases h'
theorem flat_v {d : D} {x : V} (r : Rp K mg m H d x) (h : flatD d = true) : flatV x = true := by
  cases r <;> first | rfl | cases h
theorem flats_v : ∀ {ds : List D} {vs : List V}, Rps K mg m H ds vs → ds.all flatD = true → vs.all flatV = true
  | _, _, .nil, _ => rfl
  | d :: ds, v :: vs, .cons h hs, e => by
    rw [List.all_cons, Bool.and_eq_true_iff] at e
    rw [List.all_cons, flat_v h e.1, flats_v hs e.2]
    rfl
theorem feq_v {d e : D} {x y : V} (r : Rp K mg m H d x) (q : Rp K mg m H e y) (h1 : flatD d = true) (h2 : flatD e = true) : eqV x y = feq d e := by
  cases r <;> first | (cases h1; done) | (cases q <;> first | (cases h2; done) | rfl)
theorem anyf_v {d : D} {x : V} (r : Rp K mg m H d x) (h1 : flatD d = true) : ∀ {ds : List D} {vs : List V}, Rps K mg m H ds vs → ds.all flatD = true → inV x vs = ds.any fun y => feq y d
  | _, _, .nil, _ => rfl
  | e :: ds, v :: vs, .cons h hs, q => by
    rw [List.all_cons, Bool.and_eq_true_iff] at q
    have ih := anyf_v r h1 hs q.2
    unfold inV at ih ⊢
    rw [List.any_cons, List.any_cons, ih, feq_v h r q.1 h1]
theorem isNon_v {d : D} {x : V} (r : Rp K mg m H d x) : decide (x = .non) = isNon d := by
  cases r <;> rfl
theorem tru_v (ra : RelA K mg m H S) {d : D} {x : V} {b : Bool} (r : Rp K mg m H d x) (h : truth d S = some b) : TruV K x H b := by
  cases r with
  | non => cases h; rfl
  | bl b => cases h; rfl
  | int i => cases h; rfl
  | str x => cases h
  | ty t => cases h
  | fn q => cases h
  | fd q hk hs => cases h
  | fm q hk hq hs => cases h
  | bd q hs => cases h
  | bm q hk hq hs => cases h
  | exn h1 h2 q hf hs => cases h
  | cls h1 h2 => cases h
  | fl q hs =>
    cases h
    refine .inl ⟨_, .inl (.inr ⟨_, q⟩), ?_⟩
    cases hs <;> rfl
  | tup q hs =>
    cases h
    refine .inr (.inl ⟨_, q.t, ?_⟩)
    cases hs <;> rfl
  | loc q =>
    rename_i n a _
    have : ∃ ds, lstAt S n = some ds ∧ b = !ds.isEmpty := by
      unfold truth at h
      unfold lstAt
      cases z : S[n]? with
      | none => simp only [z] at h; cases h
      | some so =>
        simp only [z] at h ⊢
        cases so with
        | lst ds => cases h; exact ⟨ds, rfl, rfl⟩
        | frz ds => cases h; exact ⟨ds, rfl, rfl⟩
        | _ => cases h
    obtain ⟨ds, h1, h2⟩ := this
    obtain ⟨vs, h3, h4⟩ := ra.seq q h1
    refine .inl ⟨vs, h3, ?_⟩
    rw [h2]
    cases h4 <;> rfl
end
section
variable {X : Cx}
def rB (K : KW) (mg : Str → Option Value) (f : D → D → Sto → R D) : R2 := fun x y H Q => ∃ W m S d e, RelA K mg m H S ∧ Rp K mg m H d x ∧ Rp K mg m H e y ∧ Post K mg W (Rp K mg) m H (f d e S) Q
def rC (K : KW) (mg : Str → Option Value) (f : D → D → Sto → Option Bool) : R2 := fun x y H Q => ∃ m S d e b, RelA K mg m H S ∧ Rp K mg m H d x ∧ Rp K mg m H e y ∧ f d e S = some b ∧ Q (.bl b) H
theorem post_mk {K : KW} {mg : Str → Option Value} {W : XK} {m : Mp} {H : Hp} {S : Sto} {ds : List D} {vs : List V} {Q : VK} (ra : RelA K mg m H S) (hs : Rps K mg m H ds vs) (h : Post K mg W (Rp K mg) m H (mk (.lst ds) S) Q) :
    ∀ p, H p = none → Q (.ref p) (upd H p (.lst vs)) := fun p hp => h (m ++ [(p, false)]) (upd H p (.lst vs)) (.ref p) (Le.alloc hp) (ra.alloc hp hs) (.loc (ra.at_new p))
theorem post_tup {K : KW} {mg : Str → Option Value} {W : XK} {m : Mp} {H : Hp} {S : Sto} {ds : List D} {vs : List V} {Q : VK} (ra : RelA K mg m H S) (hs : Rps K mg m H ds vs) (h : Post K mg W (Rp K mg) m H (.ok (.tup ds) S) Q) :
    ∀ p, H p = none → Q (.ref p) (upd H p (.tup vs)) := fun p hp => h m (upd H p (.tup vs)) (.ref p) (Le.new hp) (ra.new hp) (.tup (.inl upd_same) (hs.mono (Le.new hp)))
def rJn : R2 := fun x y H Q => ∃ l b xs zs, x = .ref l ∧ y = .ref b ∧ Rd H l (.lst xs) ∧ Rd H b (.lst zs) ∧ xs.length + zs.length ≤ sizeLine ∧ ∀ p, H p = none → Q (.ref p) (upd H p (.lst (xs ++ zs)))
theorem rd_items {pins : List (Addr × Obj)} {σ : L2.St} {H : Hp} {s : Shared} {l : Addr} {xs : List V} (I : Inv X pins σ H s) (g : Rd H l (.lst xs)) : xs.length ≤ sizeLine ∧ ∃ (ui : List Value) (nn : Nat), Vals xs ui ∧ xs.length = ui.length ∧ s.heap.get? l = some { cls := .type "list", data := .seq ui.toArray nn } := by
  obtain ⟨z, ui, nn, r, e⟩ := g.ok I.hok
  exact ⟨z, ui, nn, r, r.length, e⟩
theorem op_jn : OpR X (binaryOp .Add) rJn := by
  intro pins s σ H x y v u Q I rx ry ⟨l, b, xs, zs, ex, ey, g1, g2, cz, q⟩
  subst ex ey
  cases rx
  cases ry
  obtain ⟨c1, ui, nn, r1, l1, e1⟩ := rd_items I g1
  obtain ⟨c2, uj, nm, r2, l2, e2⟩ := rd_items I g2
  refine PySem.P.add_list e1 e2 ?_ (by simp only [List.size_toArray]; omega)
  rw [show ui.toArray ++ uj.toArray = (ui ++ uj).toArray by simp]
  exact ⟨.ref _, _, I.lnew (t' := s.toks) (r1.append r2) (by simp only [List.length_append]; omega), rfl, q _ I.fresh⟩
theorem binD_add {d e : D} {S : Sto} : (∃ i j, d = .int i ∧ e = .int j) ∨ (∃ i j, d = .str i ∧ e = .str j) ∨ (∃ i j, d = .tup i ∧ e = .tup j) ∨ binD .Add d e S = catD (lstM S d) (lstM S e) S := by
  cases d <;> cases e <;> first | exact .inr (.inr (.inr rfl)) | exact .inl ⟨_, _, rfl, rfl⟩ | exact .inr (.inl ⟨_, _, rfl, rfl⟩) | exact .inr (.inr (.inl ⟨_, _, rfl, rfl⟩))
theorem op_add_any : OpR X (binaryOp .Add) (rB X.kw X.mg (binD .Add)) := by
  intro pins s σ H x y v u Q I rx ry ⟨W, m, S, d, e, ra, rd, re, p⟩
  rcases binD_add (d := d) (e := e) (S := S) with ⟨i, j, rfl, rfl⟩ | ⟨i, j, rfl, rfl⟩ | ⟨i, j, rfl, rfl⟩ | hb
  · cases rd
    cases re
    exact op_add pins s σ H _ _ v u Q I rx ry ⟨i, j, rfl, rfl, p.now ra (.int _)⟩
  · cases rd
    cases re
    have p' : Post X.kw X.mg W (Rp X.kw X.mg) m H (if i.length + j.length ≤ sizeLine then .ok (.str (i ++ j)) S else .bad) Q := p
    by_cases c : i.length + j.length ≤ sizeLine
    · rw [if_pos c] at p'
      exact op_add_str pins s σ H _ _ v u Q I rx ry ⟨i, j, rfl, rfl, c, p'.now ra (.str _)⟩
    · rw [if_neg c] at p'
      exact p'.elim
  · cases rd with
    | tup h hs =>
      cases re with
      | tup h' hs' =>
        have p' : Post X.kw X.mg W (Rp X.kw X.mg) m H (if i.length + j.length ≤ sizeLine then .ok (.tup (i ++ j)) S else .bad) Q := p
        by_cases c : i.length + j.length ≤ sizeLine
        · rw [if_pos c] at p'
          refine op_catA pins s σ H _ _ v u Q I rx ry ⟨_, _, _, _, rfl, rfl, h.t, h'.t, by rw [hs.length, hs'.length]; exact c, fun z => ?_, fun z z' => ?_, fun _ _ => post_tup ra (hs.append hs') p'⟩
          · subst z
            cases hs
            exact p'.now ra (.tup h' hs')
          · subst z'
            cases hs'
            exact p'.now ra (by rw [List.append_nil]; exact .tup h hs)
        · rw [if_neg c] at p'
          exact p'.elim
  · rw [hb] at p
    cases h1 : lstM S d with
    | none => rw [h1] at p; exact p.elim
    | some a =>
      cases h2 : lstM S e with
      | none => rw [h1, h2] at p; exact p.elim
      | some b =>
        rw [h1, h2] at p
        have p' : Post X.kw X.mg W (Rp X.kw X.mg) m H (if a.length + b.length ≤ sizeLine then mk (.lst (a ++ b)) S else .bad) Q := p
        by_cases c : a.length + b.length ≤ sizeLine
        · rw [if_pos c] at p'
          obtain ⟨l1, vs, rfl, g1, r1⟩ := ra.lstM rd h1
          obtain ⟨l2, ws, rfl, g2, r2⟩ := ra.lstM re h2
          exact op_jn pins s σ H _ _ v u Q I rx ry ⟨l1, l2, vs, ws, rfl, rfl, g1, g2, by rw [r1.length, r2.length]; exact c, post_mk ra (r1.append r2) p'⟩
        · rw [if_neg c] at p'
          exact p'.elim
theorem op_sub_any : OpR X (binaryOp .Sub) (rB X.kw X.mg (binD .Sub)) := by
  intro pins s σ H x y v u Q I rx ry ⟨W, m, S, d, e, ra, rd, re, p⟩
  cases rd with
  | int i =>
    cases re with
    | int j => exact op_sub pins s σ H _ _ v u Q I rx ry ⟨i, j, rfl, rfl, p.now ra (.int _)⟩
    | _ => exact p.elim
  | _ => cases re <;> exact p.elim
theorem binD_mul {d e : D} {S : Sto} : (∃ i j, d = .int i ∧ e = .int j) ∨ (∃ k, e = .int k ∧ binD .Mult d e S = repL (lstW S d) k S) ∨ binD .Mult d e S = .bad := by
  cases e <;> first | (right; right; cases d <;> rfl; done) | (cases d <;> first | exact .inl ⟨_, _, rfl, rfl⟩ | exact .inr (.inl ⟨_, rfl, rfl⟩))
theorem op_mul_any : OpR X (binaryOp .Mult) (rB X.kw X.mg (binD .Mult)) := by
  intro pins s σ H x y v u Q I rx ry ⟨W, m, S, d, e, ra, rd, re, p⟩
  rcases binD_mul (d := d) (e := e) (S := S) with ⟨i, j, rfl, rfl⟩ | ⟨k, rfl, hb⟩ | hb
  · cases rd
    cases re
    have p' : Post X.kw X.mg W (Rp X.kw X.mg) m H (if mulOk i j then .ok (.int (i * j)) S else .bad) Q := p
    by_cases c : mulOk i j = true
    · rw [if_pos c] at p'
      exact op_mulW pins s σ H _ _ v u Q I rx ry ⟨i, j, rfl, rfl, (of_decide_eq_true c : i.natAbs.log2 + j.natAbs.log2 < 1000000), p'.now ra (.int _)⟩
    · rw [if_neg c] at p'
      exact p'.elim
  · rw [hb] at p
    cases re
    cases h1 : lstW S d with
    | none => rw [h1] at p; exact p.elim
    | some ds =>
      rw [h1] at p
      obtain ⟨a, vs, rfl, g1, g2⟩ := ra.lstW rd h1
      have p'' : Post X.kw X.mg W (Rp X.kw X.mg) m H (if decide (-(2 ^ 63) ≤ k) && decide (k < 2 ^ 63) && decide (ds.length * k.toNat ≤ sizeLine) then mk (.lst (List.replicate k.toNat ds).flatten) S else .bad) Q := p
      by_cases c : (decide (-(2 ^ 63) ≤ k) && decide (k < 2 ^ 63) && decide (ds.length * k.toNat ≤ sizeLine)) = true
      · rw [if_pos c] at p''
        rw [Bool.and_eq_true_iff, Bool.and_eq_true_iff] at c
        obtain ⟨⟨c1, c2⟩, c3⟩ := c
        exact op_rep pins s σ H _ _ v u Q I rx ry ⟨a, k, vs, rfl, rfl, g1, of_decide_eq_true c1, of_decide_eq_true c2, by rw [g2.length]; exact of_decide_eq_true c3, post_mk ra (g2.flatten _) p''⟩
      · rw [if_neg c] at p''
        exact p''.elim
  · rw [hb] at p
    exact p.elim
theorem op_fdiv_any : OpR X (binaryOp .FloorDiv) (rB X.kw X.mg (binD .FloorDiv)) := by
  intro pins s σ H x y v u Q I rx ry ⟨W, m, S, d, e, ra, rd, re, p⟩
  cases rd with
  | int i =>
    cases re with
    | int j =>
      have p' : Post X.kw X.mg W (Rp X.kw X.mg) m H (if divOk j then .ok (.int (i / j)) S else .bad) Q := p
      by_cases c : divOk j = true
      · rw [if_pos c] at p'
        obtain ⟨c1, c2⟩ := Bool.and_eq_true_iff.mp c
        exact op_fdivW pins s σ H _ _ v u Q I rx ry ⟨i, j, rfl, rfl, ⟨of_decide_eq_true c1, of_decide_eq_true c2⟩, p'.now ra (.int _)⟩
      · rw [if_neg c] at p'
        exact p'.elim
    | _ => exact p.elim
  | _ => cases re <;> exact p.elim
theorem op_mod_any : OpR X (binaryOp .Mod) (rB X.kw X.mg (binD .Mod)) := by
  intro pins s σ H x y v u Q I rx ry ⟨W, m, S, d, e, ra, rd, re, p⟩
  cases rd with
  | int i =>
    cases re with
    | int j =>
      have p' : Post X.kw X.mg W (Rp X.kw X.mg) m H (if decide (0 < j) then .ok (.int (i % j)) S else .bad) Q := p
      by_cases c : decide (0 < j) = true
      · rw [if_pos c] at p'
        exact op_mod pins s σ H _ _ v u Q I rx ry ⟨i, j, rfl, rfl, of_decide_eq_true c, p'.now ra (.int _)⟩
      · rw [if_neg c] at p'
        exact p'.elim
    | _ => exact p.elim
  | _ => cases re <;> exact p.elim
theorem bits_le {i : Int} (h : i.natAbs.log2 < 1000) : Builtin.Int.intBits i ≤ 1000 := by
  unfold Builtin.Int.intBits
  split <;> omega
theorem pow_big {i j : Int} (h0 : 0 ≤ j) (h1 : j ≤ 1000) (h : i.natAbs.log2 < 1000) : ¬ Builtin.Int.intTooBig (((Builtin.Int.intBits i : Nat) : Int) * j) = true := by
  have hb := bits_le h
  unfold Builtin.Int.intTooBig
  intro z
  have z' := of_decide_eq_true z
  have b1 : ((Builtin.Int.intBits i : Nat) : Int) * j ≤ 1000 * 1000 := Int.mul_le_mul (by omega) h1 h0 (by omega)
  have b2 : (1000000 : Int) < ((bitsLine : Nat) : Int) := by decide +kernel
  omega
theorem pow_neg1n (n : Nat) : (-1 : Int) ^ n = if n % 2 = 0 then 1 else -1 := by
  have h2 : ((-1 : Int)) ^ (2 : Nat) = 1 := by decide
  by_cases z : n % 2 = 0
  · rw [if_pos z]
    have : n = 2 * (n / 2) := by omega
    rw [this, Int.pow_mul, h2, Int.one_pow]
  · rw [if_neg z]
    have : n = 2 * (n / 2) + 1 := by omega
    rw [this, Int.pow_succ, Int.pow_mul, h2, Int.one_pow]
    rfl
theorem pow_neg1 {j : Int} (h : 0 ≤ j) : (-1 : Int) ^ j.toNat = if (j % 2 == 0) = true then 1 else -1 := by
  rw [pow_neg1n]
  by_cases z : j % 2 = 0
  · rw [if_pos (by omega), if_pos (by rw [z]; rfl)]
  · rw [if_neg (by omega), if_neg (fun q => z (eq_of_beq q))]
theorem op_pow_any : OpR X (binaryOp .Pow) (rB X.kw X.mg (binD .Pow)) := by
  intro pins s σ H x y v u Q I rx ry ⟨W, m, S, d, e, ra, rd, re, p⟩
  cases rd with
  | int i =>
    cases re with
    | int j =>
      have p' : Post X.kw X.mg W (Rp X.kw X.mg) m H (if powOk i j then .ok (.int (i ^ j.toNat)) S else .bad) Q := p
      by_cases c : powOk i j = true
      · rw [if_pos c] at p'
        obtain ⟨c', c3⟩ := Bool.and_eq_true_iff.mp c
        obtain ⟨c1, c2⟩ := Bool.and_eq_true_iff.mp c'
        have h0 : 0 ≤ j := of_decide_eq_true c1
        have h1 : j ≤ 1000 := of_decide_eq_true c2
        have h2 : i.natAbs.log2 < 1000 := of_decide_eq_true c3
        obtain ⟨t, rfl⟩ := rx
        obtain ⟨t', rfl⟩ := ry
        have q := p'.now ra (.int _)
        by_cases e0 : j = 0
        · subst e0
          have q1 : Q (.int 1) H := by
            have e9 : i ^ (0 : Int).toNat = 1 := Int.pow_zero i
            rw [e9] at q
            exact q
          exact AutoIntOps.pow_0 (by decide) (by decide) ⟨.int 1, H, I.tok _, ⟨_, rfl⟩, q1⟩
        · have e0' : ¬ (j == 0) = true := fun z => e0 (eq_of_beq z)
          by_cases e1 : (i == 0 || i == 1) = true
          · refine AutoIntOps.pow_1 h0 e0' e1 ⟨.int i, H, I.tok _, ⟨_, rfl⟩, ?_⟩
            have : i ^ j.toNat = i := by
              rcases Bool.or_eq_true_iff.mp e1 with z | z
              · rw [eq_of_beq z]
                exact Int.zero_pow (by omega)
              · rw [eq_of_beq z]
                exact Int.one_pow
            rw [this] at q
            exact q
          · by_cases e2 : (i == -1) = true
            · refine AutoIntOps.pow_2 h0 e0' e1 e2 ⟨.int _, H, I.tok _, ⟨_, rfl⟩, ?_⟩
              have : i ^ j.toNat = if (j % 2 == 0) = true then 1 else -1 := by
                rw [eq_of_beq e2]
                exact pow_neg1 h0
              rw [this] at q
              exact q
            · exact AutoIntOps.pow_4 h0 e0' e1 e2 (pow_big h0 h1 h2) ⟨.int _, H, I.tok _, ⟨_, rfl⟩, q⟩
      · rw [if_neg c] at p'
        exact p'.elim
    | _ => exact p.elim
  | _ => cases re <;> exact p.elim
theorem op_bin : ∀ op : Operator, OpR X (binaryOp op) (rB X.kw X.mg (binD op))
  | .Add => op_add_any
  | .Sub => op_sub_any
  | .Mult => op_mul_any
  | .FloorDiv => op_fdiv_any
  | .Mod => op_mod_any
  | .Pow => op_pow_any
  | .MatMult | .Div | .LShift | .RShift | .BitOr | .BitXor | .BitAnd => fun _ _ _ _ _ _ _ _ _ _ _ _ ⟨_, _, _, _, _, _, _, _, p⟩ => p.elim
theorem cmp_some {b : Bool} {o : Option Bool} (h : o.map (!·) = some b) : ∃ c, o = some c ∧ b = !c := by
  cases o with
  | none => cases h
  | some c => cases h; exact ⟨c, rfl, rfl⟩
section
variable {K : KW} {mg : Str → Option Value} {m : Mp} {H : Hp} {S : Sto}
theorem dic_w (ra : RelA K mg m H S) {n : Nat} {a : Addr} {b : Bool} {kvs : List (Key × D)} (t : m[n]? = some (a, b)) (q : S[n]? = some (.dic kvs)) : b = false ∧ ∃ ks, H a = some (.dK ks) ∧ Kvs K mg m H kvs ks := by
  obtain ⟨ks, hb, h1, h2⟩ := ra.at_ n (a, b) _ t q
  exact ⟨hb, ks, h1, h2⟩
theorem dic_ro (ra : RelA K mg m H S) {n : Nat} {a : Addr} {b : Bool} {kvs : List (Key × D)} (t : m[n]? = some (a, b)) (h : dicAt S n = some kvs) : ∃ ks, Rd H a (.dK ks) ∧ Kvs K mg m H kvs ks := by
  unfold dicAt at h
  cases q : S[n]? with
  | none => rw [q] at h; cases h
  | some so =>
    rw [q] at h
    cases so with
    | dic _ =>
      cases h
      obtain ⟨ks, hb, h1, h2⟩ := ra.at_ n (a, b) _ t q
      exact ⟨ks, .inl h1, h2⟩
    | fdic _ =>
      cases h
      obtain ⟨ks, od, hb, h1, h2⟩ := ra.at_ n (a, b) _ t q
      exact ⟨ks, .inr ⟨od, h1⟩, h2⟩
    | _ => cases h
theorem DGet.kr {H : Hp} {a : Addr} {kvs : List (Key × V)} {k : Key} (e : Rd H a (.dK kvs)) : DGet H a (kV k) (valV kvs k) := .inl ⟨kvs, k, e, rfl, rfl⟩
theorem kvs_val : ∀ {kvs : List (Key × D)} {ks : List (Key × V)}, Kvs K mg m H kvs ks → ∀ k, (∀ d, valA kvs k = some d → ∃ v, valV ks k = some v ∧ Rp K mg m H d v) ∧ (valA kvs k = none → valV ks k = none)
  | [], [], _, k => ⟨(fun d e => by cases e), fun _ => rfl⟩
  | [], _ :: _, ⟨e, _⟩, _ => by cases e
  | _ :: _, [], ⟨e, _⟩, _ => by cases e
  | p :: kvs, q :: ks, ⟨e, r⟩, k => by
    have e' : p.1 :: kvs.map (·.1) = q.1 :: ks.map (·.1) := e
    obtain ⟨e1, e2⟩ := List.cons.inj e'
    have r' : Rps K mg m H (p.2 :: kvs.map (·.2)) (q.2 :: ks.map (·.2)) := r
    cases r' with
    | cons r1 r2 =>
      obtain ⟨h1, h2⟩ := kvs_val (kvs := kvs) (ks := ks) ⟨e2, r2⟩ k
      by_cases c : p.1 = k
      · have c' : q.1 = k := e1.symm.trans c
        have v1 : valA (p :: kvs) k = some p.2 := by
          unfold valA
          rw [List.find?_cons_of_pos (by simpa using c)]
          rfl
        exact ⟨(fun d ed => by rw [v1] at ed; cases ed; exact ⟨q.2, valV_pos c', r1⟩), (fun z => by rw [v1] at z; cases z)⟩
      · have c' : ¬ q.1 = k := fun z => c (e1.trans z)
        have v1 : valA (p :: kvs) k = valA kvs k := by
          unfold valA
          rw [List.find?_cons_of_neg (by simpa using c)]
        rw [v1, valV_neg c']
        exact ⟨h1, h2⟩
theorem kvs_any : ∀ {kvs : List (Key × D)} {ks : List (Key × V)}, kvs.map (·.1) = ks.map (·.1) → ∀ k : Key, (kvs.any fun kv => decide (kv.1 = k)) = ks.any fun kv => decide (kv.1 = k)
  | [], [], _, _ => rfl
  | [], _ :: _, e, _ => by cases e
  | _ :: _, [], e, _ => by cases e
  | p :: kvs, q :: ks, e, k => by
    have e' : p.1 :: kvs.map (·.1) = q.1 :: ks.map (·.1) := e
    obtain ⟨e1, e2⟩ := List.cons.inj e'
    rw [List.any_cons, List.any_cons, kvs_any e2 k, e1]
theorem kvs_repl {k : Key} {d : D} {v : V} (hv : Rp K mg m H d v) : ∀ {kvs : List (Key × D)} {ks : List (Key × V)}, Kvs K mg m H kvs ks → Kvs K mg m H (kvs.map fun kv => if kv.1 = k then (kv.1, d) else kv) (ks.map fun kv => if kv.1 = k then (kv.1, v) else kv)
  | [], [], _ => ⟨rfl, .nil⟩
  | [], _ :: _, ⟨e, _⟩ => by cases e
  | _ :: _, [], ⟨e, _⟩ => by cases e
  | p :: kvs, q :: ks, ⟨e, r⟩ => by
    have e' : p.1 :: kvs.map (·.1) = q.1 :: ks.map (·.1) := e
    obtain ⟨e1, e2⟩ := List.cons.inj e'
    have r' : Rps K mg m H (p.2 :: kvs.map (·.2)) (q.2 :: ks.map (·.2)) := r
    cases r' with
    | cons r1 r2 =>
      obtain ⟨h1, h2⟩ := kvs_repl hv (kvs := kvs) (ks := ks) ⟨e2, r2⟩
      by_cases c : p.1 = k
      · have c' : q.1 = k := e1.symm.trans c
        simp only [List.map_cons, if_pos c, if_pos c']
        refine ⟨?_, .cons hv h2⟩
        show p.1 :: _ = q.1 :: _
        rw [h1, e1]
      · have c' : ¬ q.1 = k := fun z => c (e1.trans z)
        simp only [List.map_cons, if_neg c, if_neg c']
        refine ⟨?_, .cons r1 h2⟩
        show p.1 :: _ = q.1 :: _
        rw [h1, e1]
theorem kvs_put {kvs : List (Key × D)} {ks : List (Key × V)} {k : Key} {d : D} {v : V} (h : Kvs K mg m H kvs ks) (hv : Rp K mg m H d v) : Kvs K mg m H (putA kvs k d) (putK ks k v) := by
  unfold putA putK
  rw [kvs_any h.1 k]
  by_cases c : (ks.any fun kv => decide (kv.1 = k)) = true
  · rw [if_pos c, if_pos c]
    exact kvs_repl hv h
  · rw [if_neg c, if_neg c]
    exact ⟨by simp only [List.map_append, h.1, List.map_cons, List.map_nil], by simp only [List.map_append, List.map_cons, List.map_nil]; exact h.2.append (.cons hv .nil)⟩
theorem kvs_mono {m' : Mp} {H' : Hp} {kvs : List (Key × D)} {ks : List (Key × V)} (h : Kvs K mg m H kvs ks) (l : Le m m' H H') : Kvs K mg m' H' kvs ks := ⟨h.1, h.2.mono l⟩
theorem kvs_len {kvs : List (Key × D)} {ks : List (Key × V)} (h : Kvs K mg m H kvs ks) : kvs.length = ks.length := by
  have := congrArg List.length h.1
  simpa using this
theorem kD_v {d : D} {k : Key} {x : V} (h : kD d = some k) (r : Rp K mg m H d x) : x = kV k := by
  cases r <;> first | (cases h; done) | (cases h; rfl)
end
theorem kvs_zip {K : KW} {mg : Str → Option Value} {m : Mp} {H : Hp} {kvs : List (Key × V)} {ks : List Key} {ds : List D} (hk : ks = kvs.map (·.1)) (hs : Rps K mg m H ds (kvs.map (·.2))) : Kvs K mg m H (ks.zip ds) kvs := by
  have hl : ks.length = ds.length := by
    have h1 := hs.length
    rw [hk]
    simpa using h1
  have e1 : (ks.zip ds).map (·.1) = ks := by
    have := List.map_fst_zip (l₁ := ks) (l₂ := ds) (by omega)
    exact this
  have e2 : (ks.zip ds).map (·.2) = ds := by
    have := List.map_snd_zip (l₁ := ks) (l₂ := ds) (by omega)
    exact this
  exact ⟨by rw [e1]; exact hk, by rw [e2]; exact hs⟩
mutual
theorem nD_kN : ∀ {d : D} {k : NestedKey}, kN d = some k → nD k = d
  | .non, _, h => by cases h; rw [nD]
  | .int _, _, h => by cases h; rw [nD]
  | .str _, _, h => by cases h; rw [nD]
  | .tup ds, k, h => by
    have h' : (kNs ds).map NestedKey.tup = some k := h
    cases q : kNs ds with
    | none => rw [q] at h'; cases h'
    | some ks =>
      rw [q] at h'
      cases h'
      rw [nD, nDs_kNs q]
  | .bl _, _, h => by cases h
  | .loc _, _, h => by cases h
  | .ty _, _, h => by cases h
  | .fn _, _, h => by cases h
  | .fl _, _, h => by cases h
  | .fd _ _, _, h => by cases h
  | .exn _ _, _, h => by cases h
  | .cls _, _, h => by cases h
  | .fm _ _, _, h => by cases h
  | .bd _, _, h => by cases h
theorem nDs_kNs : ∀ {ds : List D} {ks : List NestedKey}, kNs ds = some ks → nDs ks = ds
  | [], _, h => by cases h; rw [nDs]
  | d :: ds, ks, h => by
    have h' : ((kN d).bind fun k => (kNs ds).map (k :: ·)) = some ks := h
    cases q1 : kN d with
    | none => rw [q1] at h'; cases h'
    | some k =>
      cases q2 : kNs ds with
      | none => rw [q1, q2] at h'; cases h'
      | some r =>
        rw [q1, q2] at h'
        cases h'
        rw [nDs, nD_kN q1, nDs_kNs q2]
end
mutual
theorem kN_nD : ∀ k : NestedKey, kN (nD k) = some k
  | .none => by rw [nD]; rfl
  | .num _ => by rw [nD]; rfl
  | .text _ => by rw [nD]; rfl
  | .tup ks => by
    rw [nD]
    show (kNs (nDs ks)).map NestedKey.tup = _
    rw [kNs_nDs ks]
    rfl
theorem kNs_nDs : ∀ ks : List NestedKey, kNs (nDs ks) = some ks
  | [] => by rw [nDs]; rfl
  | k :: ks => by
    rw [nDs]
    show ((kN (nD k)).bind fun k => (kNs (nDs ks)).map (k :: ·)) = _
    rw [kN_nD k, kNs_nDs ks]
    rfl
end
section
variable {X : Cx} {pins : List (Addr × Obj)} {σ : L2.St} {H : Hp} {s : Shared} {m : Mp}
mutual
theorem kN_is (I : Inv X pins σ H s) : ∀ {d : D} {v : V} {u : Value} {k : NestedKey}, Rp X.kw X.mg m H d v → RelV v u → kN d = some k → NestedIs s.heap k u
  | _, _, u, _, .non, r, h => by cases h; obtain rfl : u = Value.none := r; exact .none
  | _, _, u, _, .int i, r, h => by cases h; obtain ⟨t, rfl⟩ : ∃ t, u = Value.int i t := r; exact .int _ _
  | _, _, u, _, .str x, r, h => by cases h; obtain ⟨t, rfl⟩ : ∃ t, u = Value.str x t := r; exact .text _ _
  | _, _, u, k, @Rp.tup _ _ _ _ a vs ds g hs, r, h => by
    have h' : (kNs ds).map NestedKey.tup = some k := h
    cases q : kNs ds with
    | none => rw [q] at h'; cases h'
    | some ks =>
      rw [q] at h'
      cases h'
      obtain rfl : u = Value.ref a := r
      obtain ⟨its, rv, ⟨o, ho, hc, n, hd⟩, _⟩ := I.tuple g.t
      exact .tup ho hc hd (kNs_is I hs rv q)
  | _, _, _, _, .bl _, _, h => by cases h
  | _, _, _, _, .ty _, _, h => by cases h
  | _, _, _, _, .fn _, _, h => by cases h
  | _, _, _, _, .loc _, _, h => by cases h
  | _, _, _, _, .fl _ _, _, h => by cases h
  | _, _, _, _, .fd _ _ _, _, h => by cases h
  | _, _, _, _, .exn _ _ _ _ _, _, h => by cases h
  | _, _, _, _, .cls _ _, _, h => by cases h
  | _, _, _, _, .fm _ _ _ _, _, h => by cases h
  | _, _, _, _, .bd _ _, _, h => by cases h
  | _, _, _, _, .bm _ _ _ _, _, h => by cases h
theorem kNs_is (I : Inv X pins σ H s) : ∀ {ds : List D} {vs : List V} {us : List Value} {ks : List NestedKey}, Rps X.kw X.mg m H ds vs → Vals vs us → kNs ds = some ks → NestedAll s.heap ks us
  | _, _, _, _, .nil, .nil, h => by cases h; exact .nil
  | d :: ds, _, _, ks, .cons r rs, .cons v vs, h => by
    have h' : ((kN d).bind fun k => (kNs ds).map (k :: ·)) = some ks := h
    cases q1 : kN d with
    | none => rw [q1] at h'; cases h'
    | some k =>
      cases q2 : kNs ds with
      | none => rw [q1, q2] at h'; cases h'
      | some r' =>
        rw [q1, q2] at h'
        cases h'
        exact .cons (kN_is I r v q1) (kNs_is I rs vs q2)
end
theorem kT_kN {d : D} {k : NestedKey} (h : kT d = some k) : kN d = some k ∧ k.depth ≤ 8 ∧ ∃ ds, d = .tup ds := by
  cases d with
  | tup ds =>
    have h' : ((kNs ds).bind fun ks => if decide ((NestedKey.tup ks).depth ≤ 8) then some (.tup ks) else none) = some k := h
    cases q : kNs ds with
    | none => rw [q] at h'; cases h'
    | some ks =>
      rw [q] at h'
      have h2 : (if decide ((NestedKey.tup ks).depth ≤ 8) then some (NestedKey.tup ks) else none) = some k := h'
      by_cases c : (NestedKey.tup ks).depth ≤ 8
      · rw [if_pos (decide_eq_true c)] at h2
        cases h2
        exact ⟨by show (kNs ds).map NestedKey.tup = _; rw [q]; rfl, c, ds, rfl⟩
      · rw [if_neg (by simpa using c)] at h2
        cases h2
  | _ => cases h
theorem kT_at (I : Inv X pins σ H s) {d : D} {v : V} {u : Value} {k : NestedKey} (r : Rp X.kw X.mg m H d v) (ru : RelV v u) (h : kT d = some k) : ∃ b, v = .ref b ∧ u = .ref b ∧ (nestedKind X.prog X.w).is s.heap k b ∧ Rp X.kw X.mg m H (nD k) (.ref b) := by
  obtain ⟨h1, h2, ds, rfl⟩ := kT_kN h
  have e := nD_kN h1
  cases r with
  | @tup b vs _ g hs =>
    obtain rfl : u = Value.ref b := ru
    exact ⟨b, rfl, rfl, ⟨kN_is I (.tup g hs) rfl h1, h2⟩, by rw [e]; exact .tup g hs⟩
theorem nks_is (I : Inv X pins σ H s) : ∀ {xs : List (NestedKey × Addr × V)}, Rps X.kw X.mg m H (nDs (xs.map (·.1))) (xs.map fun x => V.ref x.2.1) → ∀ x ∈ xs, NestedIs s.heap x.1 (.ref x.2.1)
  | [], _, x, hx => by cases hx
  | y :: xs, h, x, hx => by
    have h' : Rps X.kw X.mg m H (nD y.1 :: nDs (xs.map (·.1))) (V.ref y.2.1 :: xs.map fun x => V.ref x.2.1) := h
    cases h' with
    | cons r rs =>
      rcases List.mem_cons.mp hx with rfl | hx
      · exact kN_is I r rfl (kN_nD _)
      · exact nks_is I rs x hx
theorem XV.mem {xs : List (NestedKey × Addr × V)} {ys : List (NestedKey × Addr × Value)} (h : XV xs ys) : ∀ y ∈ ys, ∃ x ∈ xs, x.1 = y.1 ∧ x.2.1 = y.2.1 := by
  induction h with
  | nil => intro y hy; cases hy
  | cons r _ ih =>
    intro y hy
    rcases List.mem_cons.mp hy with rfl | hy
    · exact ⟨_, List.mem_cons_self, r.1, r.2.1⟩
    · obtain ⟨x, hx, e⟩ := ih y hy
      exact ⟨x, List.mem_cons_of_mem _ hx, e⟩
theorem dn_of (I : Inv X pins σ H s) {a : Addr} {xs : List (NestedKey × Addr × V)} (h : Rd H a (DnO X.w a xs)) (hq : Rps X.kw X.mg m H (nDs (xs.map (·.1))) (xs.map fun x => V.ref x.2.1)) :
    xs.length ≤ sizeLine ∧ (∀ x ∈ xs, x.1.depth ≤ 8) ∧ (a == sysModules) = false ∧ ∃ ys, XV xs ys ∧ s.heap.DictOfH (nestedKind X.prog X.w) a ys := by
  obtain ⟨⟨z1, z2, z3, ys, xv, o, es, ep, g1, g2, g3, g4, g5⟩, _⟩ := (show ObjOk X.prog X.w H s.heap a (DnO X.w a xs) from h.ok I.hok)
  refine ⟨z1, z2, z3, ys, xv, o, es, ep, g1, g2, g3, g4, fun y hy => ?_, g5⟩
  obtain ⟨x, hx, e1, e2⟩ := xv.mem y hy
  exact ⟨by rw [← e1, ← e2]; exact nks_is I hq x hx, by rw [← e1]; exact z2 x hx⟩
theorem nk_val {K : KW} {mg : Str → Option Value} : ∀ {kvs : List (NestedKey × D)} {xs : List (NestedKey × Addr × V)} {ys : List (NestedKey × Addr × Value)}, kvs.map (·.1) = xs.map (·.1) → Rps K mg m H (kvs.map (·.2)) (xs.map (·.2.2)) → XV xs ys → ∀ k,
    (∀ d, valA kvs k = some d → ∃ b v u, atKey ys k = some (b, u) ∧ RelV v u ∧ Rp K mg m H d v) ∧ (valA kvs k = none → atKey ys k = none)
  | [], [], _, _, _, .nil, k => ⟨(fun d e => by cases e), fun _ => rfl⟩
  | p :: kvs, x :: xs, y :: ys, e, r, .cons t ts, k => by
    have e' : p.1 :: kvs.map (·.1) = x.1 :: xs.map (·.1) := e
    obtain ⟨e1, e2⟩ := List.cons.inj e'
    have r' : Rps K mg m H (p.2 :: kvs.map (·.2)) (x.2.2 :: xs.map (·.2.2)) := r
    cases r' with
    | cons r1 r2 =>
      obtain ⟨h1, h2⟩ := nk_val e2 r2 ts k
      obtain ⟨t1, t2, t3⟩ := t
      by_cases c : p.1 = k
      · have c' : y.1 = k := t1.symm.trans (e1.symm.trans c)
        have v1 : valA (p :: kvs) k = some p.2 := by unfold valA; rw [List.find?_cons_of_pos (by simpa using c)]; rfl
        have v2 : atKey (y :: ys) k = some y.2 := by unfold atKey; rw [List.find?_cons_of_pos (by simpa using c')]; rfl
        refine ⟨fun d hd => ?_, fun hn => by rw [v1] at hn; cases hn⟩
        rw [v1] at hd
        cases hd
        exact ⟨y.2.1, x.2.2, y.2.2, v2, t3, r1⟩
      · have c' : ¬ y.1 = k := fun z => c (e1.trans (t1.trans z))
        have v1 : valA (p :: kvs) k = valA kvs k := by unfold valA; rw [List.find?_cons_of_neg (by simpa using c)]
        have v2 : atKey (y :: ys) k = atKey ys k := by unfold atKey; rw [List.find?_cons_of_neg (by simpa using c')]
        rw [v1, v2]
        exact ⟨h1, h2⟩
  | [], _ :: _, _, e, _, _, _ => by cases e
  | _ :: _, [], _, e, _, _, _ => by cases e
theorem nk_some {K : KW} {mg : Str → Option Value} {kvs : List (NestedKey × D)} {xs : List (NestedKey × Addr × V)} {ys : List (NestedKey × Addr × Value)} (e : kvs.map (·.1) = xs.map (·.1)) (r : Rps K mg m H (kvs.map (·.2)) (xs.map (·.2.2))) (t : XV xs ys) (k : NestedKey) : (atKey ys k).isSome = (valA kvs k).isSome := by
  obtain ⟨h1, h2⟩ := nk_val e r t k
  cases q : valA kvs k with
  | none => rw [h2 q]; rfl
  | some d =>
    obtain ⟨b, v, u, h3, _⟩ := h1 d q
    rw [h3]
    rfl
theorem dn_ro {K : KW} {mg : Str → Option Value} {S : Sto} (ra : RelA K mg m H S) {n : Nat} {a : Addr} {b : Bool} {kvs : List (NestedKey × D)} (t : m[n]? = some (a, b)) (h : dnAt S n = some kvs) : ∃ xs, Rd H a (DnO K.w a xs) ∧ NKvs K mg m H kvs xs := by
  unfold dnAt at h
  cases q : S[n]? with
  | none => rw [q] at h; cases h
  | some so =>
    rw [q] at h
    cases so with
    | dn _ =>
      cases h
      obtain ⟨xs, hb, h1, h2⟩ := ra.at_ n (a, b) _ t q
      exact ⟨xs, .inl h1, h2⟩
    | fdn _ =>
      cases h
      obtain ⟨xs, od, hb, h1, h2⟩ := ra.at_ n (a, b) _ t q
      exact ⟨xs, .inr ⟨od, h1⟩, h2⟩
    | _ => cases h
theorem nkvs_zip {K : KW} {mg : Str → Option Value} {xs : List (NestedKey × Addr × V)} {ks : List NestedKey} {ds : List D} (hk : ks = xs.map (·.1)) (hq : Rps K mg m H (nDs ks) (xs.map fun x => V.ref x.2.1)) (hs : Rps K mg m H ds (xs.map (·.2.2))) : NKvs K mg m H (ks.zip ds) xs := by
  have hl : ks.length = ds.length := by
    have h1 := hs.length
    rw [hk]
    simpa using h1
  have e1 : (ks.zip ds).map (·.1) = ks := List.map_fst_zip (l₁ := ks) (l₂ := ds) (by omega)
  have e2 : (ks.zip ds).map (·.2) = ds := List.map_snd_zip (l₁ := ks) (l₂ := ds) (by omega)
  exact ⟨by rw [e1]; exact hk, by rw [← hk]; exact hq, by rw [e2]; exact hs⟩
theorem dn_in (hu : X.A.units + 16 < cLine) {a : Addr} {xs : List (NestedKey × Addr × V)} {kvs : List (NestedKey × D)} {d : D} {v : V} {u : Value} {k : NestedKey} (I : Inv X pins σ H s) (h : Rd H a (DnO X.w a xs)) (nk : NKvs X.kw X.mg m H kvs xs) (r : Rp X.kw X.mg m H d v) (ru : RelV v u) (hk : kT d = some k) {Q : VK} (q : Q (.bl (valA kvs k).isSome) H) :
    wpAny (model X.prog X.w) X.A (compareOp .In u (.ref a)) (EP X pins σ Q) X.xe s := by
  obtain ⟨b, rfl, rfl, hi, _⟩ := kT_at I r ru hk
  obtain ⟨_, _, hsys, ys, xv, dd⟩ := dn_of I h nk.2.1
  refine wpAny_in_heap (knd := nestedKind X.prog X.w) (show X.A.in1.units + 8 < cLine by have : X.A.in1.units = X.A.units + 1 := rfl; omega) hi hsys dd ?_
  exact ⟨.bl (atKey ys k).isSome, H, I.tok _, rfl, by rw [nk_some nk.1 nk.2.2 xv]; exact q⟩
theorem dn_notin (hu : X.A.units + 16 < cLine) {a : Addr} {xs : List (NestedKey × Addr × V)} {kvs : List (NestedKey × D)} {d : D} {v : V} {u : Value} {k : NestedKey} (I : Inv X pins σ H s) (h : Rd H a (DnO X.w a xs)) (nk : NKvs X.kw X.mg m H kvs xs) (r : Rp X.kw X.mg m H d v) (ru : RelV v u) (hk : kT d = some k) {Q : VK} (q : Q (.bl (!(valA kvs k).isSome)) H) :
    wpAny (model X.prog X.w) X.A (compareOp .NotIn u (.ref a)) (EP X pins σ Q) X.xe s := by
  obtain ⟨b, rfl, rfl, hi, _⟩ := kT_at I r ru hk
  obtain ⟨_, _, hsys, ys, xv, dd⟩ := dn_of I h nk.2.1
  refine wpAny_notIn_heap (knd := nestedKind X.prog X.w) (show X.A.in1.units + 8 < cLine by have : X.A.in1.units = X.A.units + 1 := rfl; omega) hi hsys dd ?_
  exact ⟨.bl (!(atKey ys k).isSome), H, I.tok _, rfl, by rw [nk_some nk.1 nk.2.2 xv]; exact q⟩
theorem dn_get {A : Around} {E : Value → Shared → Prop} (hu : A.units + 16 < cLine) {a : Addr} {xs : List (NestedKey × Addr × V)} {kvs : List (NestedKey × D)} {d z : D} {v : V} {u : Value} {k : NestedKey} (I : Inv X pins σ H s) (h : Rd H a (DnO X.w a xs)) (nk : NKvs X.kw X.mg m H kvs xs) (r : Rp X.kw X.mg m H d v) (ru : RelV v u) (hk : kT d = some k) (hz : valA kvs k = some z)
    {Q : Value → Shared → Prop} (q : ∀ w' s', Inv X pins σ H s' → (∃ w, RelV w w' ∧ Rp X.kw X.mg m H z w) → Q w' s') : wpAny (model X.prog X.w) A (getItem (.ref a) u) Q E s := by
  obtain ⟨b, rfl, rfl, hi, _⟩ := kT_at I r ru hk
  obtain ⟨_, _, hsys, ys, xv, dd⟩ := dn_of I h nk.2.1
  obtain ⟨b', w, w', h1, h2, h3⟩ := (nk_val nk.1 nk.2.2 xv k).1 z hz
  refine wpAny_getItem_heap (knd := nestedKind X.prog X.w) (show A.in1.units + 8 < cLine by have : A.in1.units = A.units + 1 := rfl; omega) hi dd h1 ?_
  exact q _ _ (I.tok _) ⟨w, h2, h3⟩
theorem dn_type (I : Inv X pins σ H s) {a : Addr} {xs : List (NestedKey × Addr × V)} (h : Rd H a (DnO X.w a xs)) : s.TypeIs (.ref a) "dict" := by
  obtain ⟨⟨_, _, _, ys, xv, o, es, ep, g1, g2, _⟩, _⟩ := (show ObjOk X.prog X.w H s.heap a (DnO X.w a xs) from h.ok I.hok)
  exact ⟨o, g1, g2.1⟩
def putX (xs : List (NestedKey × Addr × V)) (k : NestedKey) (b : Addr) (v : V) : List (NestedKey × Addr × V) := if (xs.any fun x => decide (x.1 = k)) = true then xs.map (fun x => if x.1 = k then (x.1, x.2.1, v) else x) else xs ++ [(k, b, v)]
theorem xv_any : ∀ {xs : List (NestedKey × Addr × V)} {ys : List (NestedKey × Addr × Value)}, XV xs ys → ∀ k, (xs.any fun x => decide (x.1 = k)) = (atKey ys k).isSome
  | _, _, .nil, k => rfl
  | x :: xs, y :: ys, .cons t ts, k => by
    rw [List.any_cons, xv_any ts k]
    by_cases c : x.1 = k
    · have c' : y.1 = k := t.1.symm.trans c
      have v2 : atKey (y :: ys) k = some y.2 := by unfold atKey; rw [List.find?_cons_of_pos (by simpa using c')]; rfl
      rw [v2]
      simp [c]
    · have c' : ¬ y.1 = k := fun z => c (t.1.trans z)
      have v2 : atKey (y :: ys) k = atKey ys k := by unfold atKey; rw [List.find?_cons_of_neg (by simpa using c')]
      rw [v2]
      simp [c]
theorem xv_put {xs : List (NestedKey × Addr × V)} {ys : List (NestedKey × Addr × Value)} (t : XV xs ys) (k : NestedKey) (b : Addr) {v : V} {u : Value} (ru : RelV v u) : XV (putX xs k b v) (storedH ys k b u) := by
  unfold putX
  rw [xv_any t k]
  unfold storedH
  by_cases c : (atKey ys k).isSome = true
  · rw [if_pos c, if_pos c]
    clear c
    induction t with
    | nil => exact .nil
    | @cons x y xs ys t ts ih =>
      refine .cons ?_ ih
      show (fun p q => p.1 = q.1 ∧ p.2.1 = q.2.1 ∧ RelV p.2.2 q.2.2) (if x.1 = k then (x.1, x.2.1, v) else x) (putAt k u y)
      unfold putAt
      by_cases c : x.1 = k
      · rw [if_pos c, if_pos (t.1.symm.trans c)]
        exact ⟨t.1, t.2.1, ru⟩
      · rw [if_neg c, if_neg (fun z => c (t.1.trans z))]
        exact t
  · rw [if_neg c, if_neg c]
    clear c
    induction t with
    | nil => exact .cons ⟨rfl, rfl, ru⟩ .nil
    | cons t ts ih => exact .cons t ih
theorem nk_put {K : KW} {mg : Str → Option Value} {kvs : List (NestedKey × D)} {xs : List (NestedKey × Addr × V)} (h : NKvs K mg m H kvs xs) {k : NestedKey} {b : Addr} (hb : Rp K mg m H (nD k) (.ref b)) {d : D} {v : V} (r : Rp K mg m H d v) : NKvs K mg m H (putA kvs k d) (putX xs k b v) := by
  obtain ⟨h1, h2, h3⟩ := h
  have ea : (kvs.any fun kv => decide (kv.1 = k)) = xs.any fun x => decide (x.1 = k) := by
    have e1 : (kvs.any fun kv => decide (kv.1 = k)) = (kvs.map (·.1)).any fun z => decide (z = k) := by rw [List.any_map]; rfl
    have e2 : (xs.any fun x => decide (x.1 = k)) = (xs.map (·.1)).any fun z => decide (z = k) := by rw [List.any_map]; rfl
    rw [e1, e2, h1]
  unfold putA putX
  rw [ea]
  by_cases c : (xs.any fun x => decide (x.1 = k)) = true
  · rw [if_pos c, if_pos c]
    have f1 : (kvs.map fun kv => if kv.1 = k then (kv.1, d) else kv).map (·.1) = kvs.map (·.1) := by
      rw [List.map_map]
      refine List.map_congr_left fun kv _ => ?_
      show (if kv.1 = k then (kv.1, d) else kv).1 = kv.1
      split <;> rfl
    have f2 : (xs.map fun x => if x.1 = k then (x.1, x.2.1, v) else x).map (·.1) = xs.map (·.1) := by
      rw [List.map_map]
      refine List.map_congr_left fun kv _ => ?_
      show (if kv.1 = k then (kv.1, kv.2.1, v) else kv).1 = kv.1
      split <;> rfl
    have f3 : ((xs.map fun x => if x.1 = k then (x.1, x.2.1, v) else x).map fun x => V.ref x.2.1) = xs.map fun x => V.ref x.2.1 := by
      rw [List.map_map]
      refine List.map_congr_left fun kv _ => ?_
      show V.ref (if kv.1 = k then (kv.1, kv.2.1, v) else kv).2.1 = V.ref kv.2.1
      split <;> rfl
    refine ⟨by rw [f1, f2]; exact h1, by rw [f2, f3]; exact h2, ?_⟩
    clear f1 f2 f3 c ea h2
    induction kvs generalizing xs with
    | nil =>
      cases xs with
      | nil => exact .nil
      | cons _ _ => cases h1
    | cons p kvs ih =>
      cases xs with
      | nil => cases h1
      | cons x xs =>
        have e' : p.1 :: kvs.map (·.1) = x.1 :: xs.map (·.1) := h1
        obtain ⟨e1, e2⟩ := List.cons.inj e'
        have r' : Rps K mg m H (p.2 :: kvs.map (·.2)) (x.2.2 :: xs.map (·.2.2)) := h3
        cases r' with
        | cons r1 r2 =>
          refine .cons ?_ (ih e2 r2)
          show Rp K mg m H (if p.1 = k then (p.1, d) else p).2 (if x.1 = k then (x.1, x.2.1, v) else x).2.2
          by_cases c : p.1 = k
          · rw [if_pos c, if_pos (e1.symm.trans c)]
            exact r
          · rw [if_neg c, if_neg (fun z => c (e1.trans z))]
            exact r1
  · rw [if_neg c, if_neg c]
    refine ⟨by rw [List.map_append, List.map_append, h1]; rfl, ?_, ?_⟩
    · rw [List.map_append, List.map_append]
      have e : ∀ (l : List NestedKey) (k : NestedKey), nDs (l ++ [k]) = nDs l ++ [nD k] := by
        intro l
        induction l with
        | nil => intro k; rfl
        | cons x l ih => intro k; show nD x :: nDs (l ++ [k]) = nD x :: nDs l ++ [nD k]; rw [ih]; rfl
      show Rps K mg m H (nDs (xs.map (·.1) ++ [k])) _
      rw [e]
      exact h2.append (.cons hb .nil)
    · rw [List.map_append, List.map_append]
      exact h3.append (.cons r .nil)
theorem putX_len (xs : List (NestedKey × Addr × V)) (k : NestedKey) (b : Addr) (v : V) : (putX xs k b v).length ≤ xs.length + 1 := by
  unfold putX
  split
  · rw [List.length_map]; omega
  · rw [List.length_append]; exact Nat.le_refl _
theorem putX_dep {xs : List (NestedKey × Addr × V)} {k : NestedKey} {b : Addr} {v : V} (h : ∀ x ∈ xs, x.1.depth ≤ 8) (hk : k.depth ≤ 8) : ∀ x ∈ putX xs k b v, x.1.depth ≤ 8 := by
  intro x hx
  unfold putX at hx
  split at hx
  · obtain ⟨y, hy, rfl⟩ := List.mem_map.mp hx
    have : (if y.1 = k then (y.1, y.2.1, v) else y).1 = y.1 := by split <;> rfl
    rw [this]
    exact h y hy
  · rcases List.mem_append.mp hx with g | g
    · exact h x g
    · rw [List.mem_singleton.mp g]
      exact hk
theorem dn_set {A : Around} {E : Value → Shared → Prop} (hu : A.units + 16 < cLine) {a : Addr} {xs : List (NestedKey × Addr × V)} {d : D} {v r : V} {u ur : Value} {k : NestedKey} (I : Inv X pins σ H s) (h : H a = some (DnO X.w a xs)) (hq : Rps X.kw X.mg m H (nDs (xs.map (·.1))) (xs.map fun x => V.ref x.2.1)) (rd : Rp X.kw X.mg m H d v) (ru : RelV v u) (hk : kT d = some k) (rr : RelV r ur) (hl : xs.length < sizeLine)
    {Q : Unit → Shared → Prop} (q : ∀ b s', v = .ref b → Rp X.kw X.mg m H (nD k) (.ref b) → Inv X pins σ (upd H a (DnO X.w a (putX xs k b r))) s' → Q () s') : wpAny (model X.prog X.w) A (setItem (.ref a) u ur) Q E s := by
  obtain ⟨b, rfl, rfl, hi, hb⟩ := kT_at I rd ru hk
  obtain ⟨z1, z2, hsys, ys, xv, dd⟩ := dn_of I (.inl h) hq
  have hlen : ys.length ≤ sizeLine := by rw [← Paired.length xv]; exact z1
  refine wpAny_setItem_heap (hsz := hlen) (knd := nestedKind X.prog X.w) (show A.in1.units + 8 < cLine by have : A.in1.units = A.units + 1 := rfl; omega) hi dd fun h' dd' hs => q b _ rfl hb ?_
  obtain ⟨o, es, ep, hq', h2, h3, h4, _, h5⟩ := dd'
  have hl2 := putX_len xs k b r
  refine d_write I (by rw [h]; exact True.intro) hs ⟨o, hq'⟩ ⟨⟨by omega, putX_dep z2 (kT_kN hk).2.1, hsys, _, xv_put xv k b rr, o, es, ep, hq', h2, h3, h4, h5⟩, ⟨o, hq'⟩, fun h1 h2' ⟨c1, c2, c3, ys', c4, o', es', ep', c5, c6⟩ kk => ⟨c1, c2, c3, ys', c4, o', es', ep', kk _ c5, c6⟩⟩
end
theorem op_in_any {cb : Bool} (c : Ctx cb X) : OpR X (compareOp .In) (rC X.kw X.mg inD) := by
  intro pins s σ H x y v u Q I rx ry ⟨m, S, d, e, b, ra, rd, re, h, q⟩
  cases re with
  | tup z hs =>
    rename_i a vs ds
    have h' : inSeq d ds = some b := h
    unfold inSeq at h'
    by_cases cc : (flatD d && ds.all flatD) = true
    · rw [if_pos cc] at h'
      obtain ⟨c1, c2⟩ := Bool.and_eq_true_iff.mp cc
      cases h'
      exact op_in_seq pins s σ H _ _ v u Q I rx ry ⟨a, vs, rfl, .inr z.t, flat_v rd c1, flats_v hs c2, by rw [if_neg (by decide), anyf_v rd c1 hs c2]; exact q⟩
    · rw [if_neg cc] at h'
      cases h'
  | loc z =>
    rename_i n a _
    have h0 : (match dicAt S n with
      | some kvs => (kD d).map fun k => (valA kvs k).isSome
      | none => match dnAt S n with
        | some kvs => (kT d).map fun k => (valA kvs k).isSome
        | none => inDeep d (.loc n) S) = some b := h
    cases hdc : dicAt S n with
    | some kvs =>
      rw [hdc] at h0
      have h1 : ((kD d).map fun k => (valA kvs k).isSome) = some b := h0
      cases hk : kD d with
      | none => rw [hk] at h1; cases h1
      | some k =>
        rw [hk] at h1
        cases h1
        obtain ⟨ks, g1, g2⟩ := dic_ro ra z hdc
        have ex := kD_v hk rd
        subst ex
        have ev : v = v := rfl
        obtain rfl : u = Value.ref a := ry
        have e : (valV ks k).isSome = (valA kvs k).isSome := by
          obtain ⟨t1, t2⟩ := kvs_val g2 k
          cases hv : valA kvs k with
          | none =>
            rw [t2 hv]
            rfl
          | some dd =>
            obtain ⟨w, hw, _⟩ := t1 dd hv
            rw [hw]
            rfl
        refine d_in (by have := c.hu; omega) I (DGet.kr g1) rx fun s' I' => ⟨.bl (valV ks k).isSome, H, I', rfl, ?_⟩
        rw [e]
        exact q
    | none =>
    rw [hdc] at h0
    have h00 : (match dnAt S n with
      | some kvs => (kT d).map fun k => (valA kvs k).isSome
      | none => inDeep d (.loc n) S) = some b := h0
    cases hdn : dnAt S n with
    | some kvs =>
      rw [hdn] at h00
      have h1 : ((kT d).map fun k => (valA kvs k).isSome) = some b := h00
      cases hk : kT d with
      | none => rw [hk] at h1; cases h1
      | some k =>
        rw [hk] at h1
        cases h1
        obtain ⟨xs, g1, g2⟩ := dn_ro ra z hdn
        obtain rfl : u = Value.ref a := ry
        exact dn_in (by have := c.hu; omega) I g1 g2 rd rx hk q
    | none =>
    rw [hdn] at h00
    have h' : inDeep d (.loc n) S = some b := h00
    unfold inDeep at h'
    cases h1 : toP S 50 d with
    | none => rw [h1] at h'; cases h'
    | some p =>
      rw [h1] at h'
      cases h2 : toP S 50 (.loc n) with
      | none => rw [h2] at h'; cases h'
      | some r =>
        rw [h2] at h'
        cases r with
        | list ds =>
          have h'' : (if SeqAt.shaped p && SeqAt.shaped (.list ds) then some (ds.any fun z => PyData.eqv z p) else none) = some b := h'
          by_cases cc : (SeqAt.shaped p && SeqAt.shaped (.list ds)) = true
          · rw [if_pos cc] at h''
            obtain ⟨c1, c2⟩ := Bool.and_eq_true_iff.mp cc
            cases h''
            exact op_inD (by have := c.hu; omega) pins s σ H _ _ v u Q I rx ry ⟨p, ds, toP_dp ra 50 _ _ _ rd h1, toP_dp ra 50 _ _ _ (.loc z) h2, c1, c2, q⟩
          · rw [if_neg cc] at h''
            cases h''
        | _ => cases h'
  | fl z hs =>
    rename_i a o vs ds
    have h' : inDeep d (.fl ds) S = some b := h
    unfold inDeep at h'
    cases h1 : toP S 50 d with
    | none => rw [h1] at h'; cases h'
    | some p =>
      rw [h1] at h'
      cases h2 : toP S 50 (.fl ds) with
      | none => rw [h2] at h'; cases h'
      | some r =>
        rw [h2] at h'
        cases r with
        | list ps =>
          have h'' : (if SeqAt.shaped p && SeqAt.shaped (.list ps) then some (ps.any fun z => PyData.eqv z p) else none) = some b := h'
          by_cases cc : (SeqAt.shaped p && SeqAt.shaped (.list ps)) = true
          · rw [if_pos cc] at h''
            obtain ⟨c1, c2⟩ := Bool.and_eq_true_iff.mp cc
            cases h''
            exact op_inD (by have := c.hu; omega) pins s σ H _ _ v u Q I rx ry ⟨p, ps, toP_dp ra 50 _ _ _ rd h1, toP_dp ra 50 _ _ _ (.fl z hs) h2, c1, c2, q⟩
          · rw [if_neg cc] at h''
            cases h''
        | _ => cases h'
  | fd z hk hs =>
    rename_i a o kvs ks ds
    have h1 : ((kD d).map fun k => (valA (ks.zip ds) k).isSome) = some b := h
    cases hkk : kD d with
    | none => rw [hkk] at h1; cases h1
    | some k =>
      rw [hkk] at h1
      cases h1
      have ex := kD_v hkk rd
      subst ex
      obtain rfl : u = Value.ref a := ry
      have g2 : Kvs X.kw X.mg m H (ks.zip ds) kvs := kvs_zip hk hs
      have e : (valV kvs k).isSome = (valA (ks.zip ds) k).isSome := by
        obtain ⟨t1, t2⟩ := kvs_val g2 k
        cases hv : valA (ks.zip ds) k with
        | none =>
          rw [t2 hv]
          rfl
        | some dd =>
          obtain ⟨w, hw, _⟩ := t1 dd hv
          rw [hw]
          rfl
      refine d_in (by have := c.hu; omega) I (DGet.kr (.inr ⟨o, z⟩)) rx fun s' I' => ⟨.bl (valV kvs k).isSome, H, I', rfl, ?_⟩
      rw [e]
      exact q
  | fm z hk hq hs =>
    rename_i a o xs ks ds
    have h1 : ((kT d).map fun k => (valA (ks.zip ds) k).isSome) = some b := h
    cases hkk : kT d with
    | none => rw [hkk] at h1; cases h1
    | some k =>
      rw [hkk] at h1
      cases h1
      obtain rfl : u = Value.ref a := ry
      exact dn_in (by have := c.hu; omega) I (.inr ⟨o, z⟩) (nkvs_zip hk hq hs) rd rx hkk q
  | str z =>
    cases rd with
    | str w => exact op_in_str pins s σ H _ _ v u Q I rx ry ⟨w, z, rfl, rfl, by cases h; exact q⟩
    | _ => cases h
  | _ => cases h
theorem op_notin_any {cb : Bool} (c : Ctx cb X) : OpR X (compareOp .NotIn) (rC X.kw X.mg fun x y S => (inD x y S).map (!·)) := by
  intro pins s σ H x y v u Q I rx ry ⟨m, S, d, e, b, ra, rd, re, hh, q⟩
  obtain ⟨b', h, rfl⟩ := cmp_some hh
  cases re with
  | tup z hs =>
    rename_i a vs ds
    have h' : inSeq d ds = some b' := h
    unfold inSeq at h'
    by_cases cc : (flatD d && ds.all flatD) = true
    · rw [if_pos cc] at h'
      obtain ⟨c1, c2⟩ := Bool.and_eq_true_iff.mp cc
      cases h'
      exact op_notIn_seq pins s σ H _ _ v u Q I rx ry ⟨a, vs, rfl, .inr z.t, flat_v rd c1, flats_v hs c2, by rw [if_pos rfl, anyf_v rd c1 hs c2]; exact q⟩
    · rw [if_neg cc] at h'
      cases h'
  | loc z =>
    rename_i n a _
    have h0 : (match dicAt S n with
      | some kvs => (kD d).map fun k => (valA kvs k).isSome
      | none => match dnAt S n with
        | some kvs => (kT d).map fun k => (valA kvs k).isSome
        | none => inDeep d (.loc n) S) = some b' := h
    cases hdc : dicAt S n with
    | some kvs =>
      rw [hdc] at h0
      have h1 : ((kD d).map fun k => (valA kvs k).isSome) = some b' := h0
      cases hk : kD d with
      | none => rw [hk] at h1; cases h1
      | some k =>
        rw [hk] at h1
        cases h1
        obtain ⟨ks, g1, g2⟩ := dic_ro ra z hdc
        have ex := kD_v hk rd
        subst ex
        have ev : v = v := rfl
        obtain rfl : u = Value.ref a := ry
        have e : (valV ks k).isSome = (valA kvs k).isSome := by
          obtain ⟨t1, t2⟩ := kvs_val g2 k
          cases hv : valA kvs k with
          | none =>
            rw [t2 hv]
            rfl
          | some dd =>
            obtain ⟨w, hw, _⟩ := t1 dd hv
            rw [hw]
            rfl
        refine d_notIn (by have := c.hu; omega) I (DGet.kr g1) rx fun s' I' => ⟨.bl (!(valV ks k).isSome), H, I', rfl, ?_⟩
        rw [e]
        exact q
    | none =>
    rw [hdc] at h0
    have h00 : (match dnAt S n with
      | some kvs => (kT d).map fun k => (valA kvs k).isSome
      | none => inDeep d (.loc n) S) = some b' := h0
    cases hdn : dnAt S n with
    | some kvs =>
      rw [hdn] at h00
      have h1 : ((kT d).map fun k => (valA kvs k).isSome) = some b' := h00
      cases hk : kT d with
      | none => rw [hk] at h1; cases h1
      | some k =>
        rw [hk] at h1
        cases h1
        obtain ⟨xs, g1, g2⟩ := dn_ro ra z hdn
        obtain rfl : u = Value.ref a := ry
        exact dn_notin (by have := c.hu; omega) I g1 g2 rd rx hk q
    | none =>
    rw [hdn] at h00
    have h' : inDeep d (.loc n) S = some b' := h00
    unfold inDeep at h'
    cases h1 : toP S 50 d with
    | none => rw [h1] at h'; cases h'
    | some p =>
      rw [h1] at h'
      cases h2 : toP S 50 (.loc n) with
      | none => rw [h2] at h'; cases h'
      | some r =>
        rw [h2] at h'
        cases r with
        | list ds =>
          have h'' : (if SeqAt.shaped p && SeqAt.shaped (.list ds) then some (ds.any fun z => PyData.eqv z p) else none) = some b' := h'
          by_cases cc : (SeqAt.shaped p && SeqAt.shaped (.list ds)) = true
          · rw [if_pos cc] at h''
            obtain ⟨c1, c2⟩ := Bool.and_eq_true_iff.mp cc
            cases h''
            exact op_notInD (by have := c.hu; omega) pins s σ H _ _ v u Q I rx ry ⟨p, ds, toP_dp ra 50 _ _ _ rd h1, toP_dp ra 50 _ _ _ (.loc z) h2, c1, c2, q⟩
          · rw [if_neg cc] at h''
            cases h''
        | _ => cases h'
  | fl z hs =>
    rename_i a o vs ds
    have h' : inDeep d (.fl ds) S = some b' := h
    unfold inDeep at h'
    cases h1 : toP S 50 d with
    | none => rw [h1] at h'; cases h'
    | some p =>
      rw [h1] at h'
      cases h2 : toP S 50 (.fl ds) with
      | none => rw [h2] at h'; cases h'
      | some r =>
        rw [h2] at h'
        cases r with
        | list ps =>
          have h'' : (if SeqAt.shaped p && SeqAt.shaped (.list ps) then some (ps.any fun z => PyData.eqv z p) else none) = some b' := h'
          by_cases cc : (SeqAt.shaped p && SeqAt.shaped (.list ps)) = true
          · rw [if_pos cc] at h''
            obtain ⟨c1, c2⟩ := Bool.and_eq_true_iff.mp cc
            cases h''
            exact op_notInD (by have := c.hu; omega) pins s σ H _ _ v u Q I rx ry ⟨p, ps, toP_dp ra 50 _ _ _ rd h1, toP_dp ra 50 _ _ _ (.fl z hs) h2, c1, c2, q⟩
          · rw [if_neg cc] at h''
            cases h''
        | _ => cases h'
  | fd z hk hs =>
    rename_i a o kvs ks ds
    have h1 : ((kD d).map fun k => (valA (ks.zip ds) k).isSome) = some b' := h
    cases hkk : kD d with
    | none => rw [hkk] at h1; cases h1
    | some k =>
      rw [hkk] at h1
      cases h1
      have ex := kD_v hkk rd
      subst ex
      obtain rfl : u = Value.ref a := ry
      have g2 : Kvs X.kw X.mg m H (ks.zip ds) kvs := kvs_zip hk hs
      have e : (valV kvs k).isSome = (valA (ks.zip ds) k).isSome := by
        obtain ⟨t1, t2⟩ := kvs_val g2 k
        cases hv : valA (ks.zip ds) k with
        | none =>
          rw [t2 hv]
          rfl
        | some dd =>
          obtain ⟨w, hw, _⟩ := t1 dd hv
          rw [hw]
          rfl
      refine d_notIn (by have := c.hu; omega) I (DGet.kr (.inr ⟨o, z⟩)) rx fun s' I' => ⟨.bl (!(valV kvs k).isSome), H, I', rfl, ?_⟩
      rw [e]
      exact q
  | fm z hk hq hs =>
    rename_i a o xs ks ds
    have h1 : ((kT d).map fun k => (valA (ks.zip ds) k).isSome) = some b' := h
    cases hkk : kT d with
    | none => rw [hkk] at h1; cases h1
    | some k =>
      rw [hkk] at h1
      cases h1
      obtain rfl : u = Value.ref a := ry
      exact dn_notin (by have := c.hu; omega) I (.inr ⟨o, z⟩) (nkvs_zip hk hq hs) rd rx hkk q
  | str z =>
    cases rd with
    | str w => exact op_notin_str pins s σ H _ _ v u Q I rx ry ⟨w, z, rfl, rfl, by cases h; exact q⟩
    | _ => cases h
  | _ => cases h
theorem qEq_cases {x y : D} {S : Sto} {b : Bool} (h : qEq x y S = some b) : (∃ i j, x = .int i ∧ y = .int j ∧ b = (i == j)) ∨ (∃ i j, x = .str i ∧ y = .str j ∧ b = (i == j)) ∨ eqD x y S = some b ∨ lenNe x y S = some b := by
  unfold qEq at h
  split at h
  · cases h
    exact .inl ⟨_, _, rfl, rfl, rfl⟩
  · cases h
    exact .inr (.inl ⟨_, _, rfl, rfl, rfl⟩)
  · split at h
    · rename_i q
      cases h
      exact .inr (.inr (.inl q))
    · exact .inr (.inr (.inr h))
theorem lenNe_ok {K : KW} {mg : Str → Option Value} {m : Mp} {H : Hp} {S : Sto} (ra : RelA K mg m H S) {d e : D} {x y : V} {b : Bool} (rx : Rp K mg m H d x) (ry : Rp K mg m H e y) (h : lenNe d e S = some b) :
    b = false ∧ ∃ a c vs ws, x = .ref a ∧ y = .ref c ∧ SqL K H a vs ∧ SqL K H c ws ∧ vs.length ≠ ws.length := by
  unfold lenNe at h
  cases h1 : lstD S d with
  | none => rw [h1] at h; cases h
  | some ds =>
    cases h2 : lstD S e with
    | none => rw [h1, h2] at h; cases h
    | some es =>
      rw [h1, h2] at h
      have h' : (if ds.length = es.length then none else some false) = some b := h
      by_cases e : ds.length = es.length
      · rw [if_pos e] at h'
        cases h'
      · rw [if_neg e] at h'
        cases h'
        obtain ⟨_, vs, rfl, g1, g2⟩ := ra.seqD rx h1
        obtain ⟨_, ws, rfl, g3, g4⟩ := ra.seqD ry h2
        exact ⟨rfl, _, _, vs, ws, rfl, rfl, g1, g3, by rw [g2.length, g4.length]; exact e⟩
theorem decStr {i j : Str} : decide (V.str i = V.str j) = (i == j) := by
  rw [Bool.eq_iff_iff]
  simp
theorem op_cmp {cb : Bool} (c : Ctx cb X) : ∀ op : CmpOp, OpR X (compareOp op) (rC X.kw X.mg (cmpD op))
  | .Eq => fun pins s σ H x y v u Q I rx ry ⟨m, S, d, e, b, ra, rd, re, h, q⟩ => by
    rcases qEq_cases h with ⟨i, j, rfl, rfl, rfl⟩ | ⟨i, j, rfl, rfl, rfl⟩ | h | hln
    · cases rd
      cases re
      exact op_eq pins s σ H _ _ v u Q I rx ry ⟨rfl, by rw [dec_int]; exact q⟩
    · cases rd
      cases re
      exact op_eq pins s σ H _ _ v u Q I rx ry ⟨rfl, by rw [decStr]; exact q⟩
    · obtain ⟨p, r, h1, h2, h3, h4, rfl⟩ := eqD_ok ra rd re h
      exact op_eqD (by have := c.hu; omega) pins s σ H _ _ v u Q I rx ry ⟨p, r, h1, h2, h3, h4, q⟩
    · obtain ⟨rfl, a, b, vs, ws, rfl, rfl, g1, g2, g3⟩ := lenNe_ok ra rd re hln
      cases rx
      cases ry
      obtain ⟨its, r1, t1, _⟩ := I.list g1
      obtain ⟨jts, r2, t2, _⟩ := I.list g2
      have l1 := r1.length
      have l2 := r2.length
      exact SeqAt.eq_list_lengthsAt t1.isList t2.isList (by simp only [List.size_toArray, bne_iff_ne]; omega) (by have := c.hu; omega) ⟨.bl false, H, I, rfl, q⟩
  | .NotEq => fun pins s σ H x y v u Q I rx ry ⟨m, S, d, e, b, ra, rd, re, hh, q⟩ => by
    obtain ⟨b', h, rfl⟩ := cmp_some hh
    rcases qEq_cases h with ⟨i, j, rfl, rfl, rfl⟩ | ⟨i, j, rfl, rfl, rfl⟩ | h | hln
    · cases rd
      cases re
      exact op_ne pins s σ H _ _ v u Q I rx ry ⟨rfl, by rw [dec_int]; exact q⟩
    · cases rd
      cases re
      exact op_ne pins s σ H _ _ v u Q I rx ry ⟨rfl, by rw [decStr]; exact q⟩
    · obtain ⟨p, r, h1, h2, h3, h4, rfl⟩ := eqD_ok ra rd re h
      exact op_neD (by have := c.hu; omega) pins s σ H _ _ v u Q I rx ry ⟨p, r, h1, h2, h3, h4, q⟩
    · obtain ⟨rfl, a, b, vs, ws, rfl, rfl, g1, g2, g3⟩ := lenNe_ok ra rd re hln
      cases rx
      cases ry
      obtain ⟨its, r1, t1, _⟩ := I.list g1
      obtain ⟨jts, r2, t2, _⟩ := I.list g2
      have l1 := r1.length
      have l2 := r2.length
      exact SeqAt.RcNeAt.lists_lengths t1.isList t2.isList (by simp only [List.size_toArray, bne_iff_ne]; omega) (by have := c.hu; omega) X.prog X.w _ _ ⟨.bl true, H, I, rfl, q⟩
  | .Lt => fun pins s σ H x y v u Q I rx ry ⟨m, S, d, e, b, ra, rd, re, h, q⟩ => by
    cases rd <;> cases re <;> first | (cases h; done) | exact op_lt pins s σ H _ _ v u Q I rx ry ⟨_, _, rfl, rfl, by cases h; exact q⟩
  | .LtE => fun pins s σ H x y v u Q I rx ry ⟨m, S, d, e, b, ra, rd, re, h, q⟩ => by
    cases rd <;> cases re <;> first | (cases h; done) | exact op_le pins s σ H _ _ v u Q I rx ry ⟨_, _, rfl, rfl, by cases h; exact q⟩
  | .Gt => fun pins s σ H x y v u Q I rx ry ⟨m, S, d, e, b, ra, rd, re, h, q⟩ => by
    cases rd <;> cases re <;> first | (cases h; done) | exact op_gt pins s σ H _ _ v u Q I rx ry ⟨_, _, rfl, rfl, by cases h; exact q⟩
  | .GtE => fun pins s σ H x y v u Q I rx ry ⟨m, S, d, e, b, ra, rd, re, h, q⟩ => by
    cases rd <;> cases re <;> first | (cases h; done) | exact op_ge pins s σ H _ _ v u Q I rx ry ⟨_, _, rfl, rfl, by cases h; exact q⟩
  | .In => op_in_any c
  | .NotIn => op_notin_any c
  | .Is => fun pins s σ H x y v u Q I rx ry ⟨m, S, d, e, b, ra, rd, re, h, q⟩ => by
    cases re <;> first | (cases h; done) | exact op_isN pins s σ H _ _ v u Q I rx ry ⟨rfl, by rw [isNon_v rd]; cases h; exact q⟩
  | .IsNot => fun pins s σ H x y v u Q I rx ry ⟨m, S, d, e, b, ra, rd, re, h, q⟩ => by
    cases re <;> first | (cases h; done) | exact op_notN pins s σ H _ _ v u Q I rx ry ⟨rfl, by rw [isNon_v rd]; cases h; exact q⟩
def rIx' (K : KW) (mg : Str → Option Value) : R2 := fun x y H Q => ∃ m S d e z, RelA K mg m H S ∧ Rp K mg m H d x ∧ Rp K mg m H e y ∧ ixD d e S = some z ∧ ∀ v, Rp K mg m H z v → Q v H
theorem ix_any {cb : Bool} (c : Ctx cb X) : IxR X (rIx' X.kw X.mg) := by
  intro value slice pins s σ H x y v u Q I rx ry ⟨m, S, d, e, z, ra, rd, re, h, q⟩ hs
  cases rd with
  | fl t hv =>
    cases re with
    | int i =>
      obtain ⟨w, h1, h2⟩ := hv.atI h
      exact ix_list value slice pins s σ H _ _ v u Q I rx ry ⟨_, _, i, w, rfl, rfl, .inl (.inr ⟨_, t⟩), h1, q w h2⟩ hs
    | _ => cases h
  | fd t hk hv =>
    rename_i a o kvs ks ds
    have h3' : ((kD e).bind fun k => valA (ks.zip ds) k) = some z := h
    cases hkk : kD e with
    | none => rw [hkk] at h3'; cases h3'
    | some k =>
      rw [hkk] at h3'
      have h4' : valA (ks.zip ds) k = some z := h3'
      obtain ⟨w, hw, rw'⟩ := (kvs_val (kvs_zip hk hv) k).1 z h4'
      have ey := kD_v hkk re
      subst ey
      obtain rfl : v = Value.ref a := rx
      have g : DGet H a (kV k) (some w) := hw ▸ DGet.kr (.inr ⟨o, t⟩)
      exact tail_any (dict_typeIs I g) slot_dict_getitem.lookup (d_getItem (by have := c.hu; omega) I g ry fun w' s' I' r' => ⟨w, H, I', r', q w rw'⟩) hs
  | fm t hk hq hv =>
    rename_i a o xs ks ds
    have h3' : ((kT e).bind fun k => valA (ks.zip ds) k) = some z := h
    cases hkk : kT e with
    | none => rw [hkk] at h3'; cases h3'
    | some k =>
      rw [hkk] at h3'
      have h4' : valA (ks.zip ds) k = some z := h3'
      obtain rfl : v = Value.ref a := rx
      have g : Rd H a (DnO X.w a xs) := .inr ⟨o, t⟩
      exact tail_any (dn_type I g) slot_dict_getitem.lookup (dn_get (by have := c.hu; omega) I g (nkvs_zip hk hq hv) re ry hkk h4' fun w' s' I' ⟨w, r', rw'⟩ => ⟨w, H, I', r', q w rw'⟩) hs
  | tup t hv =>
    cases re with
    | int i =>
      obtain ⟨w, h1, h2⟩ := hv.atI h
      exact ix_tup value slice pins s σ H _ _ v u Q I rx ry ⟨_, _, i, w, rfl, rfl, t.t, h1, q w h2⟩ hs
    | _ => cases h
  | loc t =>
    rename_i n a _
    have h' : ixL (lstAt S n) (dicAt S n) (dnAt S n) e = some z := h
    cases hl : lstAt S n with
    | some ds =>
      rw [hl] at h'
      cases re with
      | int i =>
        have h2' : atI ds i = some z := h'
        obtain ⟨vs, h3, h4⟩ := ra.seq t hl
        obtain ⟨w, h1, h2⟩ := h4.atI h2'
        exact ix_list value slice pins s σ H _ _ v u Q I rx ry ⟨_, _, i, w, rfl, rfl, h3, h1, q w h2⟩ hs
      | _ => cases h'
    | none =>
      rw [hl] at h'
      have h2' : (match dicAt S n with
        | some kvs => (kD e).bind fun k => valA kvs k
        | none => (dnAt S n).bind fun kvs => (kT e).bind fun k => valA kvs k) = some z := h'
      cases hdc : dicAt S n with
      | none =>
        rw [hdc] at h2'
        have h20 : ((dnAt S n).bind fun kvs => (kT e).bind fun k => valA kvs k) = some z := h2'
        cases hdn : dnAt S n with
        | none => rw [hdn] at h20; cases h20
        | some kvs =>
          rw [hdn] at h20
          have h21 : ((kT e).bind fun k => valA kvs k) = some z := h20
          cases hk : kT e with
          | none => rw [hk] at h21; cases h21
          | some k =>
            rw [hk] at h21
            have h22 : valA kvs k = some z := h21
            obtain ⟨xs, g1, g2⟩ := dn_ro ra t hdn
            obtain rfl : v = Value.ref a := rx
            exact tail_any (dn_type I g1) slot_dict_getitem.lookup (dn_get (by have := c.hu; omega) I g1 g2 re ry hk h22 fun w' s' I' ⟨w, r', rw'⟩ => ⟨w, H, I', r', q w rw'⟩) hs
      | some kvs =>
        rw [hdc] at h2'
        have h3' : ((kD e).bind fun k => valA kvs k) = some z := h2'
        cases hk : kD e with
        | none => rw [hk] at h3'; cases h3'
        | some k =>
          rw [hk] at h3'
          have h4' : valA kvs k = some z := h3'
          obtain ⟨ks, g1, g2⟩ := dic_ro ra t hdc
          obtain ⟨w, hw, rw'⟩ := (kvs_val g2 k).1 z h4'
          have ey := kD_v hk re
          subst ey
          obtain rfl : v = Value.ref a := rx
          have g : DGet H a (kV k) (some w) := hw ▸ DGet.kr g1
          exact tail_any (dict_typeIs I g) slot_dict_getitem.lookup (d_getItem (by have := c.hu; omega) I g ry fun w' s' I' r' => ⟨w, H, I', r', q w rw'⟩) hs
  | str t =>
    cases re with
    | int i =>
      have h' : (if t.length ≤ sizeLine then (atI t.cps.toList i).map fun c => D.str ⟨#[c]⟩ else none) = some z := h
      by_cases c : t.length ≤ sizeLine
      · rw [if_pos c] at h'
        cases hc : atI t.cps.toList i with
        | none => rw [hc] at h'; cases h'
        | some k =>
          rw [hc] at h'
          cases h'
          exact ix_str value slice pins s σ H _ _ v u Q I rx ry ⟨t, i, k, rfl, rfl, c, hc, q _ (.str _)⟩ hs
      · rw [if_neg c] at h'
        cases h'
    | _ => cases h
  | _ => cases h
def rSl' (K : KW) (mg : Str → Option Value) : V → Option Int → Option Int → Hp → VK → Prop := fun x lo hi H Q => ∃ W m S d, RelA K mg m H S ∧ Rp K mg m H d x ∧ Post K mg W (Rp K mg) m H (slD d lo hi S) Q
theorem sl_any : SlR X (rSl' X.kw X.mg) := by
  intro pins s σ H x v vl vu lo hi sl Q I rx hsl pl pu ⟨W, m, S, d, ra, rd, p⟩
  cases rd with
  | fl t hv =>
    rename_i a o vs ds
    exact sl_list pins s σ H _ v vl vu lo hi sl Q I rx hsl pl pu ⟨a, vs, rfl, .inl (.inr ⟨_, t⟩), post_mk ra (hv.cut lo hi) p⟩
  | tup t hv =>
    rename_i a vs ds
    have p' : Post X.kw X.mg W (Rp X.kw X.mg) m H (.ok (.tup (cut ds lo hi)) S) Q := p
    refine sl_tupA pins s σ H _ v vl vu lo hi sl Q I rx hsl pl pu ⟨a, vs, rfl, t.t, fun ⟨z1, z2⟩ => ?_, fun _ => post_tup ra (hv.cut lo hi) p'⟩
    have e : cut ds lo hi = ds := by
      unfold cut
      rw [hv.length] at z1 z2
      rw [z1, z2]
      simp
    rw [e] at p'
    exact p'.now ra (.tup t hv)
  | loc t =>
    rename_i n a _
    have p' : Post X.kw X.mg W (Rp X.kw X.mg) m H (match lstAt S n with
      | some ds => mk (.lst (cut ds lo hi)) S
      | none => .bad) Q := p
    cases hl : lstAt S n with
    | none => rw [hl] at p'; exact p'.elim
    | some ds =>
      rw [hl] at p'
      obtain ⟨vs, h3, h4⟩ := ra.seq t hl
      exact sl_list pins s σ H _ v vl vu lo hi sl Q I rx hsl pl pu ⟨a, vs, rfl, h3, post_mk ra (h4.cut lo hi) p'⟩
  | str z =>
    have p' : Post X.kw X.mg W (Rp X.kw X.mg) m H (if z.length ≤ sizeLine then .ok (.str (L2.cutS z lo hi)) S else .bad) Q := p
    by_cases c : z.length ≤ sizeLine
    · rw [if_pos c] at p'
      exact sl_str pins s σ H _ v vl vu lo hi sl Q I rx hsl pl pu ⟨z, rfl, c, p'.now ra (.str _)⟩
    · rw [if_neg c] at p'
      exact p'.elim
  | _ => exact p.elim
def rSet' (K : KW) (mg : Str → Option Value) : TSet := fun o i v H Q => ∃ m S d e f S', RelA K mg m H S ∧ Rp K mg m H d o ∧ Rp K mg m H e i ∧ Rp K mg m H f v ∧ setIx d e f S = some S' ∧ ∀ H', Le m m H H' → RelA K mg m H' S' → Q H'
theorem set_any {cb : Bool} (c : Ctx cb X) : PSet X (rSet' X.kw X.mg) := by
  intro pins s σ H o i v ov iv u Q I ro ri rv ⟨m, S, d, e, f, S', ra, rd, re, rf, h, q⟩
  cases rd with
  | loc t =>
    rename_i n a _
    have h' : (match S[n]? with
      | some (.lst ds) => match (generalizing := false) e with
        | .int k => (ixN ds.length k).map fun j => S.set n (.lst (ds.set j f))
        | _ => none
      | some (.dic kvs) => (kD e).bind fun k => if kvs.length < sizeLine then some (S.set n (.dic (putA kvs k f))) else none
      | some (.dn kvs) => (kT e).bind fun k => if kvs.length < sizeLine then some (S.set n (.dn (putA kvs k f))) else none
      | _ => none) = some S' := h
    cases hl : S[n]? with
    | none => rw [hl] at h'; cases h'
    | some so =>
      rw [hl] at h'
      cases so with
      | lst ds =>
        cases re with
        | int k =>
          have h'' : ((ixN ds.length k).map fun j => S.set n (.lst (ds.set j f))) = some S' := h'
          obtain ⟨vs, h1, h2⟩ := ra.lst t hl
          cases hj : ixN ds.length k with
          | none => rw [hj] at h''; cases h''
          | some j =>
            rw [hj] at h''
            cases h''
            exact set_list pins s σ H _ _ _ ov iv u Q I ro ri rv ⟨a, vs, k, j, rfl, rfl, h1, by rw [h2.length]; exact hj, q _ (Le.write ra t hl h1) (ra.write t hl h1 (h2.set rf j))⟩
        | _ => cases h'
      | dn kvs =>
        have h'' : ((kT e).bind fun k => if kvs.length < sizeLine then some (S.set n (.dn (putA kvs k f))) else none) = some S' := h'
        cases hk : kT e with
        | none => rw [hk] at h''; cases h''
        | some k =>
          rw [hk] at h''
          have h3' : (if kvs.length < sizeLine then some (S.set n (.dn (putA kvs k f))) else none) = some S' := h''
          by_cases cl : kvs.length < sizeLine
          · rw [if_pos cl] at h3'
            cases h3'
            obtain ⟨xs, hb, g1, g2⟩ := ra.at_ n _ _ t hl
            have hb' : _ = false := hb
            subst hb'
            obtain rfl : ov = Value.ref a := ro
            have hlen : xs.length < sizeLine := by
              have e : (kvs.map (·.1)).length = (xs.map (·.1)).length := by rw [g2.1]
              rw [List.length_map, List.length_map] at e
              omega
            refine dn_set (by have := c.hu; omega) I g1 g2.2.1 re ri hk rv hlen fun b' s' ev hb2 I' => ?_
            have le : Le m m H (upd H a (DnO X.w a (putX xs k b' v))) := Le.writeO t g1 trivial
            exact ⟨_, I', q _ le (ra.writeO t g1 trivial ⟨_, rfl, upd_same, nk_put (g2.mov le.lt) (hb2.mono le) (rf.mono le)⟩)⟩
          · rw [if_neg cl] at h3'
            cases h3'
      | dic kvs =>
        have h'' : ((kD e).bind fun k => if kvs.length < sizeLine then some (S.set n (.dic (putA kvs k f))) else none) = some S' := h'
        cases hk : kD e with
        | none => rw [hk] at h''; cases h''
        | some k =>
          rw [hk] at h''
          have h3' : (if kvs.length < sizeLine then some (S.set n (.dic (putA kvs k f))) else none) = some S' := h''
          by_cases cl : kvs.length < sizeLine
          · rw [if_pos cl] at h3'
            cases h3'
            obtain ⟨hb, ks, g1, g2⟩ := dic_w ra t hl
            subst hb
            have ey := kD_v hk re
            subst ey
            obtain rfl : ov = Value.ref a := ro
            have le : Le m m H (upd H a (.dK (putK ks k v))) := Le.writeO t g1 trivial
            refine d_setItem (by have := c.hu; omega) I (DPut.k g1 (by rw [← kvs_len g2]; exact cl)) ri rv fun s' I' => ⟨_, I', q _ le (ra.writeO t g1 trivial ⟨_, rfl, upd_same, kvs_put (kvs_mono g2 le) (rf.mono le)⟩)⟩
          · rw [if_neg cl] at h3'
            cases h3'
      | _ => cases h'
  | _ => cases h
end
end CC
namespace CC
open PySem PySem.Spec PyProof.Rows L2
def rBi (K : KW) (mg : Str → Option Value) (b : Bi) : List V → Hp → VK → Prop := fun vs H Q => ∃ W m S ds, RelA K mg m H S ∧ Rps K mg m H ds vs ∧ Post K mg W (Rp K mg) m H (biD b ds S) Q
section
variable {K : KW} {mg : Str → Option Value} {m : Mp} {H : Hp} {S : Sto} {Q : VK} {W : XK}
theorem post_opt {α β : Type} {rel : Mp → Hp → α → β → Prop} {Q : β → Hp → Prop} {o : Option α} (h : Post K mg W rel m H (R.opt o S) Q) : ∃ d, o = some d ∧ Post K mg W rel m H (.ok d S) Q := by
  cases o with
  | none => exact h.elim
  | some d => exact ⟨d, rfl, h⟩
theorem rps1 {d : D} {vs : List V} (h : Rps K mg m H [d] vs) : ∃ v, vs = [v] ∧ Rp K mg m H d v := by
  cases h with
  | cons h1 h2 => cases h2; exact ⟨_, rfl, h1⟩
theorem rps2 {d e : D} {vs : List V} (h : Rps K mg m H [d, e] vs) : ∃ v w, vs = [v, w] ∧ Rp K mg m H d v ∧ Rp K mg m H e w := by
  cases h with
  | cons h1 h2 =>
    obtain ⟨w, rfl, h3⟩ := rps1 h2
    exact ⟨_, _, rfl, h1, h3⟩
def lenS (x : D) (S : Sto) : Option Nat := match x with
  | .str z => if z.length ≤ sizeLine then some z.length else none
  | .tup ds => some ds.length
  | .fl ds => some ds.length
  | .loc n => (lstAt S n).map List.length
  | _ => none
theorem lenV_ok (ra : RelA K mg m H S) {d : D} {x : V} {n : Nat} (r : Rp K mg m H d x) (h : lenS d S = some n) : LenV K x H n := by
  cases r with
  | str z =>
    have h' : (if z.length ≤ sizeLine then some z.length else none) = some n := h
    by_cases c : z.length ≤ sizeLine
    · rw [if_pos c] at h'
      cases h'
      exact ⟨c, rfl⟩
    · rw [if_neg c] at h'
      cases h'
  | tup t hs =>
    cases h
    exact .inr ⟨_, t.t, hs.length.symm⟩
  | fl t hs =>
    cases h
    exact .inl ⟨_, .inl (.inr ⟨_, t⟩), hs.length.symm⟩
  | loc t =>
    rename_i k a _
    have h' : (lstAt S k).map List.length = some n := h
    cases q : lstAt S k with
    | none => rw [q] at h'; cases h'
    | some ds =>
      rw [q] at h'
      cases h'
      obtain ⟨vs, h1, h2⟩ := ra.seq t q
      exact .inl ⟨vs, h1, h2.length.symm⟩
  | _ => cases h
theorem lenD_cases {d : D} {S : Sto} {n : Nat} (h : lenD d S = some n) : lenS d S = some n ∨ (∃ k kvs, d = .loc k ∧ dicAt S k = some kvs ∧ n = kvs.length) ∨ (∃ ks ds, d = .fd ks ds ∧ n = (ks.zip ds).length) ∨ (∃ k kvs, d = .loc k ∧ dnAt S k = some kvs ∧ n = kvs.length) ∨ ∃ ks ds, d = .fm ks ds ∧ n = (ks.zip ds).length := by
  cases d with
  | fd ks ds =>
    have h' : some (ks.zip ds).length = some n := h
    cases h'
    exact .inr (.inr (.inl ⟨ks, ds, rfl, rfl⟩))
  | fm ks ds =>
    have h' : some (ks.zip ds).length = some n := h
    cases h'
    exact .inr (.inr (.inr (.inr ⟨ks, ds, rfl, rfl⟩)))
  | loc k =>
    have h' : lenL (lstAt S k) (dicAt S k) (dnAt S k) = some n := h
    show (lstAt S k).map List.length = some n ∨ _
    cases q : lstAt S k with
    | some ds => rw [q] at h'; exact .inl h'
    | none =>
      rw [q] at h'
      cases q2 : dicAt S k with
      | none =>
        rw [q2] at h'
        have h2 : (dnAt S k).map List.length = some n := h'
        cases q3 : dnAt S k with
        | none => rw [q3] at h2; cases h2
        | some kvs => rw [q3] at h2; cases h2; exact .inr (.inr (.inr (.inl ⟨k, kvs, rfl, q3, rfl⟩)))
      | some kvs => rw [q2] at h'; cases h'; exact .inr (.inl ⟨k, kvs, rfl, q2, rfl⟩)
  | _ => exact .inl h
theorem ints_at (ra : RelA K mg m H S) {d : D} {x : V} {ns : List Int} (t : Rp K mg m H d x) (h : (lstD S d).bind intsOf = some ns) : ∃ a, x = .ref a ∧ SqL K H a (ns.map V.int) := by
  cases q : lstD S d with
  | none => rw [q] at h; cases h
  | some ds =>
    rw [q] at h
    obtain ⟨a, vs, e, h1, h2⟩ := ra.seqD t q
    rw [h2.ints h] at h1
    exact ⟨a, e, h1⟩
theorem bls_at (ra : RelA K mg m H S) {d : D} {x : V} {ns : List Bool} (t : Rp K mg m H d x) (h : (lstD S d).bind blsOf = some ns) : ∃ a, x = .ref a ∧ SqL K H a (ns.map V.bl) := by
  cases q : lstD S d with
  | none => rw [q] at h; cases h
  | some ds =>
    rw [q] at h
    obtain ⟨a, vs, e, h1, h2⟩ := ra.seqD t q
    rw [h2.bls h] at h1
    exact ⟨a, e, h1⟩
theorem tyX_ok (ra : RelA K mg m H S) {d : D} {x : V} {a : String} (r : Rp K mg m H d x) (h : tyOfD d S = some a) : TyX K H x (.type a) := by
  cases r with
  | non => cases h; exact .base .non
  | bl b => cases h; exact .base (.bl b)
  | int i => cases h; exact .base (.int i)
  | str z => cases h; exact .base (.str z)
  | fl t hs => cases h; exact .base (.frz t)
  | fd t hk hs => cases h; exact .fDict t
  | tup t hs =>
    cases h
    rcases t with t | ⟨o, its, n, t, c, _⟩
    · exact .base (.tup t)
    · exact .kTuple t c
  | loc t =>
    rename_i k p _
    have h' : (match S[k]? with
      | some (.lst _) => some "list"
      | some (.dic _) => some "dict"
      | _ => none) = some a := h
    cases q : S[k]? with
    | none => rw [q] at h'; cases h'
    | some so =>
      rw [q] at h'
      cases so with
      | lst ds =>
        cases h'
        obtain ⟨vs, h1, _⟩ := ra.lst t q
        exact .base (.lst h1)
      | dic _ =>
        cases h'
        obtain ⟨ks, _, h1, _⟩ := ra.at_ k (p, _) _ t q
        exact .base (.dK h1)
      | _ => cases h'
  | _ => cases h
end
def someTy : List String := ["NoneType", "bool", "int", "str", "tuple", "list", "dict"]
theorem kit_some : ∀ a ∈ someTy, ∀ b ∈ ["int", "bool", "str", "tuple", "list", "dict"], kitB a b = some (subTy a b) := by decide +kernel
theorem tyOfD_some {d : D} {S : Sto} {a : String} (h : tyOfD d S = some a) : a ∈ someTy := by
  unfold tyOfD at h
  cases d with
  | loc k =>
    simp only at h
    cases q : S[k]? with
    | none => rw [q] at h; cases h
    | some so => rw [q] at h; cases so <;> first | (cases h; done) | (cases h; decide)
  | _ => first | (cases h; done) | (cases h; decide)
theorem known_mem {b : String} (h : knownTy b = true) : b ∈ ["int", "bool", "str", "tuple", "list", "dict"] := by
  unfold knownTy at h
  simp only [Bool.or_eq_true, beq_iff_eq] at h
  simp only [List.mem_cons, List.not_mem_nil, or_false]
  rcases h with ((((h | h) | h) | h) | h) | h <;> simp [h]
theorem kitOne_ok {K : PySem.W.Frag} {a b : String} (ha : a ∈ someTy) (hb : knownTy b = true) : PySem.W.kitOne K (.type a) (.type b) = some (subTy a b) := kit_ty (kit_some a ha b (known_mem hb))
theorem leastI_mem : ∀ (l : List Int) (m : Int), leastI m l ∈ m :: l
  | [], m => by simp [leastI]
  | x :: r, m => by
    unfold leastI
    have := leastI_mem r (if x < m then x else m)
    rcases List.mem_cons.mp this with h | h
    · rw [h]
      split <;> simp
    · exact List.mem_cons_of_mem _ (List.mem_cons_of_mem _ h)
theorem leastI_le : ∀ (l : List Int) (m : Int), ∀ y ∈ m :: l, leastI m l ≤ y
  | [], m, y, h => by simp at h; subst h; exact Int.le_refl _
  | x :: r, m, y, h => by
    unfold leastI
    have ih := leastI_le r (if x < m then x else m)
    have h0 := ih _ List.mem_cons_self
    rcases List.mem_cons.mp h with e | h
    · subst e
      refine Int.le_trans h0 ?_
      split <;> omega
    · rcases List.mem_cons.mp h with e | h
      · subst e
        refine Int.le_trans h0 ?_
        split <;> omega
      · exact ih y (List.mem_cons_of_mem _ h)
theorem mostI_mem : ∀ (l : List Int) (m : Int), mostI m l ∈ m :: l
  | [], m => by simp [mostI]
  | x :: r, m => by
    unfold mostI
    have := mostI_mem r (if m < x then x else m)
    rcases List.mem_cons.mp this with h | h
    · rw [h]
      split <;> simp
    · exact List.mem_cons_of_mem _ (List.mem_cons_of_mem _ h)
theorem mostI_le : ∀ (l : List Int) (m : Int), ∀ y ∈ m :: l, y ≤ mostI m l
  | [], m, y, h => by simp at h; subst h; exact Int.le_refl _
  | x :: r, m, y, h => by
    unfold mostI
    have ih := mostI_le r (if m < x then x else m)
    have h0 := ih _ List.mem_cons_self
    rcases List.mem_cons.mp h with e | h
    · subst e
      refine Int.le_trans ?_ h0
      split <;> omega
    · rcases List.mem_cons.mp h with e | h
      · subst e
        refine Int.le_trans ?_ h0
        split <;> omega
      · exact ih y (List.mem_cons_of_mem _ h)
section
variable {X : Cx}
theorem dn_len {pins : List (Addr × Obj)} {σ : L2.St} {H : Hp} {s : Shared} {m : Mp} {A : Around} {E : Value → Shared → Prop} {a : Addr} {xs : List (NestedKey × Addr × V)} {kvs : List (NestedKey × D)} (I : Inv X pins σ H s) (h : Rd H a (DnO X.w a xs)) (nk : NKvs X.kw X.mg m H kvs xs)
    {Q : Value → Shared → Prop} (q : ∀ t s', Inv X pins σ H s' → Q (.int ((kvs.length : Nat) : Int) t) s') : wpAny (model X.prog X.w) A (call (.builtin "len") [.ref a]) Q E s := by
  obtain ⟨z1, _, hsys, ys, xv, dd⟩ := dn_of I h nk.2.1
  have hl : xs.length = ys.length := Paired.length xv
  have hk : kvs.length = xs.length := by
    have e : (kvs.map (·.1)).length = (xs.map (·.1)).length := by rw [nk.1]
    rwa [List.length_map, List.length_map] at e
  refine call_len_dictH (knd := nestedKind X.prog X.w) hsys dd (by rw [← hl]; rw [sizeLine_eq] at z1; omega) ?_
  rw [← hl, ← hk]
  exact q _ _ (I.tok _)
theorem bi_len : CallR X (.builtin "len") (rBi X.kw X.mg .len) := by
  intro pins s σ H xs us Q I r ⟨W, m, S, ds, ra, rs, p⟩
  cases ds with
  | nil => exact p.elim
  | cons d ds =>
    cases ds with
    | cons _ _ => exact p.elim
    | nil =>
      obtain ⟨x, rfl, rx⟩ := rps1 rs
      obtain ⟨z, hz, p'⟩ := post_opt (show Post X.kw X.mg W (Rp X.kw X.mg) m H (R.opt ((lenD d S).map fun n => D.int n) S) Q from p)
      cases hl : lenD d S with
      | none => rw [hl] at hz; cases hz
      | some n =>
        rw [hl] at hz
        cases hz
        rcases lenD_cases hl with hl | ⟨k, kvs, rfl, hdc, rfl⟩ | ⟨ks, fs, rfl, rfl⟩ | ⟨k, kvs, rfl, hdc, rfl⟩ | ⟨ks, fs, rfl, rfl⟩
        · exact call_len pins s σ H _ us Q I r ⟨x, n, rfl, lenV_ok ra rx hl, p'.now ra (.int _)⟩
        · cases rx with
          | loc t =>
            rename_i a _
            obtain ⟨ks, g1, g2⟩ := dic_ro ra t hdc
            obtain ⟨u, rfl, ru⟩ := vals1 r
            obtain rfl : u = Value.ref a := ru
            exact d_len I g1 fun t' s' I' => ⟨.int kvs.length, H, I', ⟨t', by rw [kvs_len g2]⟩, p'.now ra (.int _)⟩
        · cases rx with
          | fd t hk hs =>
            rename_i a o kvs
            have g2 := kvs_zip hk hs
            obtain ⟨u, rfl, ru⟩ := vals1 r
            obtain rfl : u = Value.ref a := ru
            exact d_len I (.inr ⟨o, t⟩) fun t' s' I' => ⟨.int (ks.zip fs).length, H, I', ⟨t', by rw [kvs_len g2]⟩, p'.now ra (.int _)⟩
        · cases rx with
          | loc t =>
            rename_i a _
            obtain ⟨xs, g1, g2⟩ := dn_ro ra t hdc
            obtain ⟨u, rfl, ru⟩ := vals1 r
            obtain rfl : u = Value.ref a := ru
            exact dn_len I g1 g2 fun t' s' I' => ⟨.int kvs.length, H, I', ⟨t', rfl⟩, p'.now ra (.int _)⟩
        · cases rx with
          | fm t hk hq hs =>
            rename_i a o xs
            obtain ⟨u, rfl, ru⟩ := vals1 r
            obtain rfl : u = Value.ref a := ru
            exact dn_len I (.inr ⟨o, t⟩) (nkvs_zip hk hq hs) fun t' s' I' => ⟨.int (ks.zip fs).length, H, I', ⟨t', rfl⟩, p'.now ra (.int _)⟩
theorem bi_abs : CallR X (.builtin "abs") (rBi X.kw X.mg .abs) := by
  intro pins s σ H xs us Q I r ⟨W, m, S, ds, ra, rs, p⟩
  match ds, p, rs with
  | [.int i], p, rs =>
    obtain ⟨x, rfl, rx⟩ := rps1 rs
    cases rx
    exact call_abs pins s σ H _ us Q I r ⟨i, rfl, Post.now p ra (.int _)⟩
theorem int_tup {t : Addr} {ns : List Int} {its : List Value} {s : Shared} (r : Vals (ns.map V.int) its) (i : Nat) (v : Value) (h : its.toArray[i]? = some v) : ∃ k, v = .int (ns.getD i 0) k := by
  have hl := r.length
  rw [List.length_map] at hl
  have h' : its[i]? = some v := by simpa using h
  have hi : i < its.length := (List.getElem?_eq_some_iff.mp h').1
  have hn : i < ns.length := by omega
  have e1 : (ns.map V.int)[i]? = some (.int ns[i]) := by rw [List.getElem?_map, List.getElem?_eq_getElem hn]; rfl
  obtain ⟨u, hu, ru⟩ := Vals.get r e1
  rw [h'] at hu
  cases hu
  obtain ⟨k, e⟩ := ru
  exact ⟨k, by rw [e, List.getD_eq_getElem?_getD, List.getElem?_eq_getElem hn]; rfl⟩
theorem tup_best {X : Cx} {pins : List (Addr × Obj)} {σ : L2.St} {H : Hp} {s : Shared} {n' : Obj} {ns : List Int} {b : Nat} {v : Value} {h' : Heap} {tk : Nat} {Q : VK} (I : Inv X pins σ H s) (hb : b < ns.length) (hv : ∃ k, v = Value.int (ns.getD b 0) k)
    (hk : ∀ c o, c ∉ [s.heap.objs.size] → (s.heap.push n').get? c = some o → h'.get? c = some o) (q : ns.getD b 0 ∈ ns → Q (.int (ns.getD b 0)) H) : EP X pins σ Q v { s with heap := h', toks := tk } := by
  obtain ⟨k, rfl⟩ := hv
  refine ⟨.int _, H, I.kept (t' := tk) fun c u e => hk c u (fun hmem => ?_) (Heap.get?_push_of_some _ e), ⟨k, rfl⟩, q ?_⟩
  · have e1 : c = s.heap.objs.size := List.mem_singleton.mp hmem
    have e2 := Heap.lt_size e
    rw [e1] at e2
    exact absurd e2 (Nat.lt_irrefl _)
  · rw [List.getD_eq_getElem?_getD, List.getElem?_eq_getElem hb]
    exact List.getElem_mem hb
theorem getD_all {ns : List Int} {j : Int} (h : j ∈ ns) : ∃ i, i < ns.length ∧ ns.getD i 0 = j := by
  obtain ⟨i, hi, e⟩ := List.mem_iff_getElem.mp h
  exact ⟨i, hi, by rw [List.getD_eq_getElem?_getD, List.getElem?_eq_getElem hi, ← e]; rfl⟩
theorem cr_maxT (hc : X.calm = true) : CallR X (.builtin "max") (fun vs H Q => ∃ (a : Addr) (ns : List Int), vs = [V.ref a] ∧ SqT X.K H a (ns.map V.int) ∧ 0 < ns.length ∧ ∀ m, m ∈ ns → (∀ y, y ∈ ns → y ≤ m) → Q (.int m) H) := by
  intro pins s σ H vs us Q I r ⟨a, ns, e, hs, hne, q⟩
  subst e
  obtain ⟨its, rv, ⟨o, ho, hcl, n, hd⟩, _⟩ := I.tuple hs
  rw [Vals.ref1 r]
  have ht : s.heap.IsTuple a its.toArray := ⟨o, ho, hcl, n, hd⟩
  have hlt : a < s.heap.objs.size := Heap.lt_size ho
  have hl := rv.length
  rw [List.length_map] at hl
  refine call_max_walk (wpAny_pyIter_tuple ht ?_)
  refine ⟨_, _, _, _, _, _, _, rfl, Walks.tuple (A := X.A.in1) (I.ok.hd hc) s.heap.objs.size a (Nat.ne_of_lt hlt) its.toArray, ⟨⟨_, Heap.get?_push_size _ rfl, rfl, rfl⟩, ht.at fun o e => Heap.get?_push_of_some _ e⟩, fun b hb => ?_, by simpa using (by omega : 0 < its.length),
    CmpOf.ints_gt (fun i => ns.getD i 0) (fun i v h => int_tup (t := a) (s := s) rv i v h), fun v h' tk hP hk => ?_⟩
  · show b < (s.heap.push _).objs.size
    rw [Heap.size_push]
    rcases List.mem_cons.mp hb with e | hb
    · rw [e]
      exact Nat.lt_succ_self _
    · rw [List.mem_singleton.mp hb]
      exact Nat.lt_succ_of_lt hlt
  · obtain ⟨b1, b2⟩ := argBest_gt (fun i => ns.getD i 0) (its.toArray.size - 1)
    have hz : its.toArray.size = ns.length := by simpa using hl.symm
    show EP X pins σ Q v { s with heap := h', toks := tk }
    refine tup_best (s := s) (n' := { cls := .type "tuple_iterator", data := .fields #[.ref a, .int 0 0] }) I (by omega) (int_tup (t := a) (s := s) rv _ v hP) hk fun hm => q _ hm fun j hj => ?_
    obtain ⟨i, hi, e⟩ := getD_all hj
    rw [← e]
    exact b2 i (by omega)
theorem cr_minT (hc : X.calm = true) : CallR X (.builtin "min") (fun vs H Q => ∃ (a : Addr) (ns : List Int), vs = [V.ref a] ∧ SqT X.K H a (ns.map V.int) ∧ 0 < ns.length ∧ ∀ m, m ∈ ns → (∀ y, y ∈ ns → m ≤ y) → Q (.int m) H) := by
  intro pins s σ H vs us Q I r ⟨a, ns, e, hs, hne, q⟩
  subst e
  obtain ⟨its, rv, ⟨o, ho, hcl, n, hd⟩, _⟩ := I.tuple hs
  rw [Vals.ref1 r]
  have ht : s.heap.IsTuple a its.toArray := ⟨o, ho, hcl, n, hd⟩
  have hlt : a < s.heap.objs.size := Heap.lt_size ho
  have hl := rv.length
  rw [List.length_map] at hl
  refine call_min_walk (wpAny_pyIter_tuple ht ?_)
  refine ⟨_, _, _, _, _, _, _, rfl, Walks.tuple (A := X.A.in1) (I.ok.hd hc) s.heap.objs.size a (Nat.ne_of_lt hlt) its.toArray, ⟨⟨_, Heap.get?_push_size _ rfl, rfl, rfl⟩, ht.at fun o e => Heap.get?_push_of_some _ e⟩, fun b hb => ?_, by simpa using (by omega : 0 < its.length),
    CmpOf.ints_lt (fun i => ns.getD i 0) (fun i v h => int_tup (t := a) (s := s) rv i v h), fun v h' tk hP hk => ?_⟩
  · show b < (s.heap.push _).objs.size
    rw [Heap.size_push]
    rcases List.mem_cons.mp hb with e | hb
    · rw [e]
      exact Nat.lt_succ_self _
    · rw [List.mem_singleton.mp hb]
      exact Nat.lt_succ_of_lt hlt
  · obtain ⟨b1, b2⟩ := argBest_lt (fun i => ns.getD i 0) (its.toArray.size - 1)
    have hz : its.toArray.size = ns.length := by simpa using hl.symm
    show EP X pins σ Q v { s with heap := h', toks := tk }
    refine tup_best (s := s) (n' := { cls := .type "tuple_iterator", data := .fields #[.ref a, .int 0 0] }) I (by omega) (int_tup (t := a) (s := s) rv _ v hP) hk fun hm => q _ hm fun j hj => ?_
    obtain ⟨i, hi, e⟩ := getD_all hj
    rw [← e]
    exact b2 i (by omega)
theorem sq_ints {K : KW} {mg : Str → Option Value} {m : Mp} {H : Hp} {S : Sto} {d : D} {x : V} {ns : List Int} (ra : RelA K mg m H S) (rx : Rp K mg m H d x) (q : (sqD S d).bind intsOf = some ns) : ∃ a, x = .ref a ∧ (SqL K H a (ns.map V.int) ∨ SqT K H a (ns.map V.int)) := by
  by_cases ht : ∃ ds, d = .tup ds
  · obtain ⟨ds, rfl⟩ := ht
    cases rx with
    | tup h hs =>
      have e := hs.ints (show intsOf ds = some ns from q)
      subst e
      exact ⟨_, rfl, .inr h.t⟩
  · have e : sqD S d = lstD S d := by
      cases d with
      | tup ds => exact absurd ⟨ds, rfl⟩ ht
      | _ => rfl
    rw [e] at q
    obtain ⟨a, e, g⟩ := ints_at ra rx q
    exact ⟨a, e, .inl g⟩
theorem bi_max (hc : X.calm = true) : CallR X (.builtin "max") (rBi X.kw X.mg .max) := by
  intro pins s σ H xs us Q I r ⟨W, m, S, ds, ra, rs, p⟩
  match ds, p, rs with
  | [.int i, .int j], p, rs =>
    obtain ⟨x, y, rfl, rx, ry⟩ := rps2 rs
    cases rx
    cases ry
    exact call_max2 hc pins s σ H _ us Q I r ⟨i, j, rfl, Post.now p ra (.int _)⟩
  | [d], p, rs =>
    obtain ⟨x, rfl, rx⟩ := rps1 rs
    cases q : (sqD S d).bind intsOf with
    | none =>
      simp only [biD, q] at p
      exact p.elim
    | some ns =>
      cases ns with
      | nil =>
        simp only [biD, q] at p
        exact p.elim
      | cons z l =>
        simp only [biD, q] at p
        obtain ⟨a, rfl, g | g⟩ := sq_ints ra rx q
        · refine cr_max hc pins s σ H _ us Q I r ⟨_, z :: l, rfl, g, by simp, fun k hk hle => ?_⟩
          have e : k = mostI z l := Int.le_antisymm (mostI_le l z k hk) (hle _ (mostI_mem l z))
          rw [e]
          exact Post.now p ra (.int _)
        · refine cr_maxT hc pins s σ H _ us Q I r ⟨_, z :: l, rfl, g, by simp, fun k hk hle => ?_⟩
          have e : k = mostI z l := Int.le_antisymm (mostI_le l z k hk) (hle _ (mostI_mem l z))
          rw [e]
          exact Post.now p ra (.int _)
theorem bi_min (hc : X.calm = true) : CallR X (.builtin "min") (rBi X.kw X.mg .min) := by
  intro pins s σ H xs us Q I r ⟨W, m, S, ds, ra, rs, p⟩
  match ds, p, rs with
  | [.int i, .int j], p, rs =>
    obtain ⟨x, y, rfl, rx, ry⟩ := rps2 rs
    cases rx
    cases ry
    exact call_min2 hc pins s σ H _ us Q I r ⟨i, j, rfl, Post.now p ra (.int _)⟩
  | [d], p, rs =>
    obtain ⟨x, rfl, rx⟩ := rps1 rs
    cases q : (sqD S d).bind intsOf with
    | none =>
      simp only [biD, q] at p
      exact p.elim
    | some ns =>
      cases ns with
      | nil =>
        simp only [biD, q] at p
        exact p.elim
      | cons z l =>
        simp only [biD, q] at p
        obtain ⟨a, rfl, g | g⟩ := sq_ints ra rx q
        · refine cr_min hc pins s σ H _ us Q I r ⟨_, z :: l, rfl, g, by simp, fun k hk hle => ?_⟩
          have e : k = leastI z l := Int.le_antisymm (hle _ (leastI_mem l z)) (leastI_le l z k hk)
          rw [e]
          exact Post.now p ra (.int _)
        · refine cr_minT hc pins s σ H _ us Q I r ⟨_, z :: l, rfl, g, by simp, fun k hk hle => ?_⟩
          have e : k = leastI z l := Int.le_antisymm (hle _ (leastI_mem l z)) (leastI_le l z k hk)
          rw [e]
          exact Post.now p ra (.int _)
theorem bi_all (hc : X.calm = true) : CallR X (.builtin "all") (rBi X.kw X.mg .all) := by
  intro pins s σ H xs us Q I r ⟨W, m, S, ds, ra, rs, p⟩
  match ds, p, rs with
  | [d], p, rs =>
    obtain ⟨x, rfl, rx⟩ := rps1 rs
    cases q : (lstD S d).bind blsOf with
    | none =>
      simp only [biD, q] at p
      exact p.elim
    | some ns =>
      simp only [biD, q] at p
      obtain ⟨a, rfl, g⟩ := bls_at ra rx q
      exact cr_all hc pins s σ H _ us Q I r ⟨_, ns, rfl, g, Post.now p ra (.bl _)⟩
theorem biD_list {d : D} {S : Sto} : (∃ es, d = .tup es) ∨ biD .list [d] S = match lstD S d with
    | some ds => mk (.lst ds) S
    | none => .bad := by
  cases d <;> first | exact .inl ⟨_, rfl⟩ | exact .inr rfl
theorem bi_list : CallR X (.type "list") (rBi X.kw X.mg .list) := by
  intro pins s σ H xs us Q I r ⟨W, m, S, ds, ra, rs, p⟩
  match ds, p, rs with
  | [], p, rs => exact p.elim
  | d :: e :: l, p, rs => cases d <;> exact p.elim
  | [d], p, rs =>
    obtain ⟨x, rfl, rx⟩ := rps1 rs
    rcases biD_list (d := d) (S := S) with ⟨es, rfl⟩ | hb
    · cases rx with
      | tup t hs => exact call_list_of pins s σ H _ us Q I r ⟨_, _, rfl, .inr t.t, post_mk ra hs p⟩
    · rw [hb] at p
      cases q : lstD S d with
      | none =>
        simp only [q] at p
        exact p.elim
      | some es =>
        simp only [q] at p
        obtain ⟨a, vs, rfl, h1, h2⟩ := ra.seqD rx q
        exact call_list_of pins s σ H _ us Q I r ⟨_, vs, rfl, .inl h1, post_mk ra h2 p⟩
theorem biD_tuple {d : D} {S : Sto} : (∃ es, d = .tup es) ∨ biD .tuple [d] S = match lstD S d with
    | some ds => .ok (.tup ds) S
    | none => .bad := by
  cases d <;> first | exact .inl ⟨_, rfl⟩ | exact .inr rfl
theorem bi_tuple : CallR X (.type "tuple") (rBi X.kw X.mg .tuple) := by
  intro pins s σ H xs us Q I r ⟨W, m, S, ds, ra, rs, p⟩
  match ds, p, rs with
  | [], p, rs => exact p.elim
  | d :: e :: l, p, rs => cases d <;> exact p.elim
  | [d], p, rs =>
    obtain ⟨x, rfl, rx⟩ := rps1 rs
    rcases biD_tuple (d := d) (S := S) with ⟨es, rfl⟩ | hb
    · cases rx with
      | tup t hs => exact call_tuple_of pins s σ H _ us Q I r ⟨_, _, rfl, .inr ⟨t.t, Post.now p ra (.tup t hs)⟩⟩
    · rw [hb] at p
      cases q : lstD S d with
      | none =>
        simp only [q] at p
        exact p.elim
      | some es =>
        simp only [q] at p
        obtain ⟨a, vs, rfl, h1, h2⟩ := ra.seqD rx q
        exact call_tuple_of pins s σ H _ us Q I r ⟨_, vs, rfl, .inl ⟨h1, post_tup ra h2 p⟩⟩
theorem bi_isinst : CallR X (.builtin "isinstance") (rBi X.kw X.mg .isinst) := by
  intro pins s σ H xs us Q I r ⟨W, m, S, ds, ra, rs, p⟩
  match ds, p, rs with
  | [d, e], p, rs =>
    obtain ⟨x, y, rfl, rx, ry⟩ := rps2 rs
    obtain ⟨z, hz, p'⟩ := post_opt (show Post X.kw X.mg W (Rp X.kw X.mg) m H (R.opt ((isinst d e S).map D.bl) S) Q from p)
    have hz' : ((tyOfD d S).bind fun a => isT a e).map D.bl = some z := hz
    cases ht : tyOfD d S with
    | none => rw [ht] at hz'; cases hz'
    | some a =>
      rw [ht] at hz'
      have tx := tyX_ok ra rx ht
      have h1 : (isT a e).map D.bl = some z := hz'
      clear hz hz' p
      unfold isT at h1
      split at h1
      · rename_i b
        by_cases c : knownTy b = true
        · rw [if_pos c] at h1
          cases h1
          cases ry
          exact call_isi pins s σ H _ us Q I r ⟨x, .ty b, .type a, .type b, subTy a b, rfl, .ty b, tx, kitOne_ok (tyOfD_some ht) c, p'.now ra (.bl _)⟩
        · rw [if_neg c] at h1
          cases h1
      · rename_i b c
        by_cases k : (knownTy b && knownTy c) = true
        · rw [if_pos k] at h1
          cases h1
          obtain ⟨k1, k2⟩ := Bool.and_eq_true_iff.mp k
          cases ry with
          | @tup tp vs _ t hs =>
            obtain ⟨v1, v2, rfl, r1, r2⟩ := rps2 hs
            cases r1
            cases r2
            have kk : PySem.W.kitAny X.K (.type a) [.type b, .type c] = some (subTy a b || subTy a c) := by
              refine kitAny_cons (kitOne_ok (tyOfD_some ht) k1) (fun hb => ?_) (fun hb => by rw [hb]; rfl)
              rw [hb, Bool.false_or]
              exact kitAny_cons (kitOne_ok (tyOfD_some ht) k2) (fun hc => by rw [hc]; exact kitAny_nil) (fun hc => hc)
            rcases t with t | ⟨o, its, n, t, c1, c2, c3, c4⟩
            · exact call_isiT pins s σ H _ us Q I r ⟨x, tp, [.ty b, .ty c], .type a, [.type b, .type c], _, rfl, t, .cons (.ty b) (.cons (.ty c) .nil), tx, kk, p'.now ra (.bl _)⟩
            · have ei : its = #[.type b, .type c] := by
                obtain ⟨w1, w2, e1, q1, q2⟩ := vals2 c4
                have q1' : w1 = .type b := q1
                have q2' : w2 = .type c := q2
                subst q1'
                subst q2'
                rw [← Array.toArray_toList (xs := its), e1]
              obtain ⟨oc, od, oda, osl⟩ := o
              have e1 : oc = .type "tuple" := c1
              have e2 : oda = .seq its n := c2
              subst e1
              subst e2
              subst ei
              exact call_isiK pins s σ H _ us Q I r ⟨x, tp, od, [.type b, .type c], n, osl, .type a, _, rfl, t, tx, kk, p'.now ra (.bl _)⟩
        · rw [if_neg k] at h1
          cases h1
      · cases h1
end
end CC
namespace CC
open PySem PySem.Spec PyProof.Rows L2
namespace RT
end RT
namespace SS
end SS
def tG {α β : Type} (K : KW) (mg : Str → Option Value) (W : WX) (rel : Mp → Hp → α → β → Prop) (f : Env → Sto → R α) : L2.St → Hp → (β → Hp → Prop) → Prop := fun σ H Q =>
  ∃ m ρ S, RelA K mg m H S ∧ RelE K mg m H σ ρ ∧ Post K mg (fun c d H' => W c d σ H') rel m H (f ρ S) Q
abbrev relEq {α : Type} : Mp → Hp → α → α → Prop := fun _ _ a b => a = b
abbrev tD (X : Cx) (C : CallSem) (G : Nat → Option D) (W : WX) (e : Xp) : TE   := tG X.kw X.mg W (Rp X.kw X.mg) (ev C G e)
abbrev tDT (X : Cx) (C : CallSem) (G : Nat → Option D) (W : WX) (e : Xp) : TT   := tG X.kw X.mg W relEq (fun ρ S => asT (ev C G e ρ S))
abbrev tDs (X : Cx) (C : CallSem) (G : Nat → Option D) (W : WX) (e : Xp) : TA   := tG X.kw X.mg W (Rps X.kw X.mg) (evs C G e)
abbrev tDp (X : Cx) (C : CallSem) (G : Nat → Option D) (W : WX) (e : Xp) : TO   := tG X.kw X.mg W relEq (evp C G e)
def SrcOk (K : KW) (mg : Str → Option Value) (m0 : Mp) (H0 : Hp) (src : Src) (J : It) : Prop :=
  ∀ m H S i, Lt m0 m H0 H → RelA K mg m H S → (src.get i S = some none → J.stop i H) ∧
    ∀ d, src.get i S = some (some d) → J.go i H ∧ ∀ x H', J.yld i H x H' → Le m m H H' ∧ RelA K mg m H' S ∧ Rp K mg m H' d x
abbrev tDi (X : Cx) (C : CallSem) (G : Nat → Option D) (W : WX) (e : Xp) : TI   := tG X.kw X.mg W (SrcOk X.kw X.mg) (evi C G e)
def GOk (K : KW) (mg : Str → Option Value) (gn : List Str) (G : Nat → Option D) : Prop := ∀ i x d, gn[i]? = some x → G i = some d → ∃ u v, mg x = some u ∧ RelV v u ∧ ∀ m H, Rp K mg m H d v
section
variable {X : Cx} {C : CallSem} {G : Nat → Option D} {W : WX} {a b c e : Expr} {A B D' : Xp} {pos : Pos}
theorem de_var {i : Nat} (h : PE X e (tVar i)) : PE X e (tD X C G W (.var i)) := PE_imp h fun σ H Q ⟨m, ρ, S, ra, re, p⟩ => by
  obtain ⟨d, hd, p'⟩ := post_opt (show Post X.kw X.mg (fun c d H' => W c d σ H') (Rp X.kw X.mg) m H (R.opt (ρ[i]?.bind id) S) Q from p)
  cases q : ρ[i]? with
  | none => rw [q] at hd; cases hd
  | some o =>
    rw [q] at hd
    have ho : o = some d := hd
    subst ho
    obtain ⟨v, h1, h2⟩ := re.at_ i d q
    exact ⟨v, h1, p'.now ra h2⟩
theorem de_glo {x : Str} {i : Nat} {gn : List Str} (gok : GOk X.kw X.mg gn G) (hx : gn[i]? = some x) (hg : Gl X x) (hd : (x == ("__debug__" : Str)) = false := by decide) : PE X (.Name x pos) (tD X C G W (.glo i)) := by
  cases q : G i with
  | none =>
    refine PE_never fun σ H Q ⟨m, ρ, S, ra, re, p⟩ => ?_
    have p' : Post X.kw X.mg (fun c d H' => W c d σ H') (Rp X.kw X.mg) m H (R.opt (G i) S) Q := p
    rw [q] at p'
    exact p'
  | some d =>
    obtain ⟨u, v, h1, h2, h3⟩ := gok i x d hx q
    refine PE_imp (pe_glob hg h1 h2 hd) fun σ H Q ⟨m, ρ, S, ra, re, p⟩ => ?_
    have p' : Post X.kw X.mg (fun c d H' => W c d σ H') (Rp X.kw X.mg) m H (R.opt (G i) S) Q := p
    rw [q] at p'
    exact p'.now ra (h3 m H)
theorem de_non {j} : PE X (.Constant .none j pos) (tD X C G W .non) := PE_imp pe_non fun σ H Q ⟨m, ρ, S, ra, re, p⟩ => p.now ra .non
theorem de_bl {v j} : PE X (.Constant (.bool v) j pos) (tD X C G W (.bl v)) := PE_imp pe_bl fun σ H Q ⟨m, ρ, S, ra, re, p⟩ => p.now ra (.bl v)
theorem de_int {v j} : PE X (.Constant (.int v) j pos) (tD X C G W (.int v)) := PE_imp pe_int fun σ H Q ⟨m, ρ, S, ra, re, p⟩ => p.now ra (.int v)
theorem de_str {v j} : PE X (.Constant (.str v) j pos) (tD X C G W (.str v)) := PE_imp pe_str fun σ H Q ⟨m, ρ, S, ra, re, p⟩ => p.now ra (.str v)
theorem de_ty {x : Str} {t : String} {cb : Bool} (cx : Ctx cb X) (hx : x ∈ bnames) (hg : Gl X x) (hv : bootBuiltins x = some (.type t)) (hn : x ≠ "__name__" := by decide) (hd : (x == ("__debug__" : Str)) = false := by decide) :
    PE X (.Name x pos) (tD X C G W (.tyc t)) := PE_imp (pe_bltn (v := .ty t) hg (cx.nob x hx) hv rfl hn hd) fun σ H Q ⟨m, ρ, S, ra, re, p⟩ => p.now ra (.ty t)
theorem de_bin {op : Operator} (ha : PE X a (tD X C G W A)) (hb : PE X b (tD X C G W B)) : PE X (.BinOp a op b pos) (tD X C G W (.bin op A B)) :=
  PE_imp (pe_op (op_bin op) ha hb) fun σ H Q ⟨m, ρ, S, ra, re, p⟩ => ⟨m, ρ, S, ra, re, Post.imp (Post.bind p) fun x H1 ⟨m1, d, S1, l1, ra1, r1, p1⟩ =>
    ⟨m1, ρ, S1, ra1, re.mono l1, Post.imp (Post.bind p1) fun y H2 ⟨m2, d2, S2, l2, ra2, r2, p2⟩ => ⟨_, m2, S2, d, d2, ra2, r1.mono l2, r2, p2⟩⟩⟩
theorem asI_rp {K : KW} {mg : Str → Option Value} {V' : XK} {m : Mp} {H : Hp} {r : R D} {f : Int → Sto → R α} {Q : β → Hp → Prop} {rel : Mp → Hp → α → β → Prop} (h : Post K mg V' rel m H ((asI r).bind f) Q) :
    Post K mg V' (Rp K mg) m H r (fun v H1 => ∃ m1 i S1, v = .int i ∧ Le m m1 H H1 ∧ RelA K mg m1 H1 S1 ∧ Post K mg V' rel m1 H1 (f i S1) Q) := by
  cases r with
  | bad => exact h
  | exc c p S => exact h
  | ok d S =>
    cases d with
    | int i =>
      intro m' H' v l ra rp
      cases rp
      exact ⟨m', i, S, rfl, l, ra, Post.move l h⟩
    | _ => exact h.elim
theorem de_neg (ha : PE X a (tD X C G W A)) : PE X (.UnaryOp .USub a pos) (tD X C G W (.neg A)) :=
  PE_imp (pe_un un_neg ha) fun σ H Q ⟨m, ρ, S, ra, re, p⟩ => ⟨m, ρ, S, ra, re, Post.imp (asI_rp p) fun x H1 ⟨m1, i, S1, e1, l1, ra1, p1⟩ => ⟨i, e1, p1.now ra1 (.int _)⟩⟩
theorem asT_rp {K : KW} {mg : Str → Option Value} {V' : XK} {m : Mp} {H : Hp} {r : R D} {Q : Bool → Hp → Prop} (h : Post K mg V' relEq m H (asT r) Q) :
    Post K mg V' (Rp K mg) m H r (fun v H1 => ∃ k, TruV K v H1 k ∧ Q k H1) := by
  cases r with
  | bad => exact h
  | exc c p S => exact h
  | ok d S =>
    intro m' H' v l ra rp
    obtain ⟨k, hk, p⟩ := post_opt (show Post K mg V' relEq m H (R.opt (truth d S) S) Q from h)
    exact ⟨k, tru_v ra rp hk, p m' H' k l ra rfl⟩
theorem asT_bind {K : KW} {mg : Str → Option Value} {V' : XK} {m : Mp} {H : Hp} {r : R D} {f : Bool → Sto → R α} {Q : β → Hp → Prop} {rel : Mp → Hp → α → β → Prop} (h : Post K mg V' rel m H ((asT r).bind f) Q) :
    Post K mg V' (Rp K mg) m H r (fun v H1 => ∃ m1 k S1, TruV K v H1 k ∧ Le m m1 H H1 ∧ RelA K mg m1 H1 S1 ∧ Post K mg V' rel m1 H1 (f k S1) Q) := by
  cases r with
  | bad => exact h
  | exc c p S => exact h
  | ok d S =>
    intro m' H' v l ra rp
    cases ht : truth d S with
    | none =>
      have h' : Post K mg V' rel m H ((R.opt (truth d S) S).bind f) Q := h
      rw [ht] at h'
      exact h'.elim
    | some k =>
      have h' : Post K mg V' rel m H ((R.opt (truth d S) S).bind f) Q := h
      rw [ht] at h'
      exact ⟨m', k, S, tru_v ra rp ht, l, ra, Post.move l h'⟩
theorem de_nt (ha : PE X a (tD X C G W A)) : PE X (.UnaryOp .Not a pos) (tD X C G W (.nt A)) :=
  PE_imp (pe_notT ha) fun σ H Q ⟨m, ρ, S, ra, re, p⟩ => ⟨m, ρ, S, ra, re, Post.imp (asT_bind p) fun x H1 ⟨m1, k, S1, e1, l1, ra1, p1⟩ => ⟨k, e1, p1.now ra1 (.bl _)⟩⟩
theorem de_and {rest : List Expr} (ha : PE X a (tD X C G W A)) (hb : PE X (.BoolOp .And (b :: rest) pos) (tD X C G W B)) : PE X (.BoolOp .And (a :: b :: rest) pos) (tD X C G W (.and A B)) :=
  PE_imp (pe_andT ha hb) fun σ H Q ⟨m, ρ, S, ra, re, p⟩ => ⟨m, ρ, S, ra, re, Post.imp (Post.bind p) fun x H1 ⟨m1, d, S1, l1, ra1, r1, p1⟩ => by
    cases ht : truth d S1 with
    | none => simp only [ht] at p1; exact p1.elim
    | some k =>
      refine ⟨k, tru_v ra1 r1 ht, ?_⟩
      cases k with
      | true => simp only [ht] at p1; exact ⟨m1, ρ, S1, ra1, re.mono l1, p1⟩
      | false => simp only [ht] at p1; exact p1.now ra1 r1⟩
theorem de_cmp {op : CmpOp} {cb : Bool} (cx : Ctx cb X) (ha : PE X a (tD X C G W A)) (hb : PE X b (tD X C G W B)) (hm : behindInMarks op b = false := by rfl) : PE X (.Compare a [op] [b] pos) (tD X C G W (.cmp op A B)) :=
  PE_imp (pe_cmpR (op_cmp cx op) ha hb hm) fun σ H Q ⟨m, ρ, S, ra, re, p⟩ => ⟨m, ρ, S, ra, re, Post.imp (Post.bind p) fun x H1 ⟨m1, d, S1, l1, ra1, r1, p1⟩ =>
    ⟨m1, ρ, S1, ra1, re.mono l1, Post.imp (Post.bind p1) fun y H2 ⟨m2, d2, S2, l2, ra2, r2, p2⟩ => by
      obtain ⟨z, hz, p3⟩ := post_opt p2
      cases hc : cmpD op d d2 S2 with
      | none => rw [hc] at hz; cases hz
      | some k =>
        rw [hc] at hz
        cases hz
        exact ⟨m2, S2, d, d2, k, ra2, r1.mono l2, r2, hc, p3.now ra2 (.bl _)⟩⟩⟩
theorem dt_tru (ha : PE X a (tD X C G W A)) (he : ∀ whole, isTrue a X.env whole = (do let v ← whole; standAt a.pos; holding [v] (truthy v)) := by intro _; rfl) : PT X a (tDT X C G W A) :=
  PT_imp (pt_truth ha he) fun σ H Q ⟨m, ρ, S, ra, re, p⟩ => ⟨m, ρ, S, ra, re, asT_rp p⟩
theorem asT_nt (r : R D) : asT ((asT r).bind fun b S1 => .ok (.bl (!b)) S1) = (asT r).bind fun b S1 => .ok (!b) S1 := by
  cases asT r <;> rfl
theorem dt_nt (ha : PT X a (tDT X C G W A)) : PT X (.UnaryOp .Not a pos) (tDT X C G W (.nt A)) :=
  PT_imp (pt_not ha) fun σ H Q ⟨m, ρ, S, ra, re, p⟩ => by
    have p' : Post X.kw X.mg (fun c d H' => W c d σ H') relEq m H (asT ((asT (ev C G A ρ S)).bind fun b S1 => .ok (.bl (!b)) S1)) Q := p
    rw [asT_nt] at p'
    exact ⟨m, ρ, S, ra, re, Post.imp (Post.bind (rel1 := relEq) p') fun k H1 ⟨m1, d, S1, l1, ra1, r1, p1⟩ => by
      have r1' : d = k := r1
      subst r1'
      exact p1.now ra1 rfl⟩
theorem asT_and {r : R D} {f : Sto → R D} : asT (r.bind fun x S1 => match truth x S1 with
    | some true => f S1
    | some false => .ok x S1
    | none => .bad) = (asT r).bind fun b S1 => if b then asT (f S1) else .ok false S1 := by
  cases r with
  | bad => rfl
  | exc c p S => rfl
  | ok x S =>
    show asT (match truth x S with | some true => f S | some false => .ok x S | none => .bad) = (R.opt (truth x S) S).bind fun b S1 => if b then asT (f S1) else .ok false S1
    cases h : truth x S with
    | none => rfl
    | some k =>
      cases k with
      | true => rfl
      | false =>
        show R.opt (truth x S) S = _
        rw [h]
        rfl
theorem asT_or {r : R D} {f : Sto → R D} : asT (r.bind fun x S1 => match truth x S1 with
    | some true => .ok x S1
    | some false => f S1
    | none => .bad) = (asT r).bind fun b S1 => if b then .ok true S1 else asT (f S1) := by
  cases r with
  | bad => rfl
  | exc c p S => rfl
  | ok x S =>
    show asT (match truth x S with | some true => .ok x S | some false => f S | none => .bad) = (R.opt (truth x S) S).bind fun b S1 => if b then .ok true S1 else asT (f S1)
    cases h : truth x S with
    | none => rfl
    | some k =>
      cases k with
      | false => rfl
      | true =>
        show R.opt (truth x S) S = _
        rw [h]
        rfl
theorem dw_one_and (ha : PT X a (tDT X C G W A)) : PW X (.BoolOp .And [a] pos) (tDT X C G W A) := pw_and1 ha
theorem dw_one_or (ha : PT X a (tDT X C G W A)) : PW X (.BoolOp .Or [a] pos) (tDT X C G W A) := pw_or1 ha
theorem dw_and {rest : List Expr} (ha : PT X a (tDT X C G W A)) (hb : PW X (.BoolOp .And (b :: rest) pos) (tDT X C G W B)) : PW X (.BoolOp .And (a :: b :: rest) pos) (tDT X C G W (.and A B)) :=
  PW_imp (pw_and ha hb) fun σ H Q ⟨m, ρ, S, ra, re, p⟩ => by
    have p' : Post X.kw X.mg (fun c d H' => W c d σ H') relEq m H (asT ((ev C G A ρ S).bind fun x S1 => match truth x S1 with
      | some true => ev C G B ρ S1
      | some false => .ok x S1
      | none => .bad)) Q := p
    rw [asT_and] at p'
    exact ⟨m, ρ, S, ra, re, Post.imp (Post.bind (rel1 := relEq) p') fun k H1 ⟨m1, d, S1, l1, ra1, r1, p1⟩ => by
      have r1' : d = k := r1
      subst r1'
      cases d with
      | true => exact ⟨m1, ρ, S1, ra1, re.mono l1, p1⟩
      | false => exact p1.now ra1 rfl⟩
theorem dw_or {rest : List Expr} (ha : PT X a (tDT X C G W A)) (hb : PW X (.BoolOp .Or (b :: rest) pos) (tDT X C G W B)) : PW X (.BoolOp .Or (a :: b :: rest) pos) (tDT X C G W (.or A B)) :=
  PW_imp (pw_or ha hb) fun σ H Q ⟨m, ρ, S, ra, re, p⟩ => by
    have p' : Post X.kw X.mg (fun c d H' => W c d σ H') relEq m H (asT ((ev C G A ρ S).bind fun x S1 => match truth x S1 with
      | some true => .ok x S1
      | some false => ev C G B ρ S1
      | none => .bad)) Q := p
    rw [asT_or] at p'
    exact ⟨m, ρ, S, ra, re, Post.imp (Post.bind (rel1 := relEq) p') fun k H1 ⟨m1, d, S1, l1, ra1, r1, p1⟩ => by
      have r1' : d = k := r1
      subst r1'
      cases d with
      | false => exact ⟨m1, ρ, S1, ra1, re.mono l1, p1⟩
      | true => exact p1.now ra1 rfl⟩
theorem dt_cmp {op : CmpOp} {cb : Bool} (cx : Ctx cb X) (ha : PE X a (tD X C G W A)) (hb : PE X b (tD X C G W B)) (hm : behindInMarks op b = false := by rfl) : PT X (.Compare a [op] [b] pos) (tDT X C G W (.cmp op A B)) :=
  PT_imp (pt_cmpR (op_cmp cx op) ha hb hm) fun σ H Q ⟨m, ρ, S, ra, re, p⟩ => ⟨m, ρ, S, ra, re, by
    have p0 : Post X.kw X.mg (fun c d H' => W c d σ H') relEq m H (((ev C G A ρ S).bind fun x S1 => (ev C G B ρ S1).bind fun y S2 => R.opt ((cmpD op x y S2).map D.bl) S2).bind fun x S => R.opt (truth x S) S) Q := p
    have assoc : (((ev C G A ρ S).bind fun x S1 => (ev C G B ρ S1).bind fun y S2 => R.opt ((cmpD op x y S2).map D.bl) S2).bind fun x S => R.opt (truth x S) S) =
        (ev C G A ρ S).bind fun x S1 => (ev C G B ρ S1).bind fun y S2 => R.opt (cmpD op x y S2) S2 := by
      cases ev C G A ρ S with
      | bad => rfl
      | exc c p S => rfl
      | ok x S1 =>
        show ((ev C G B ρ S1).bind fun y S2 => R.opt ((cmpD op x y S2).map D.bl) S2).bind (fun x S => R.opt (truth x S) S) = (ev C G B ρ S1).bind fun y S2 => R.opt (cmpD op x y S2) S2
        cases ev C G B ρ S1 with
        | bad => rfl
        | exc c p S => rfl
        | ok y S2 =>
          show (R.opt ((cmpD op x y S2).map D.bl) S2).bind (fun x S => R.opt (truth x S) S) = R.opt (cmpD op x y S2) S2
          cases cmpD op x y S2 <;> rfl
    rw [assoc] at p0
    exact Post.imp (Post.bind p0) fun x H1 ⟨m1, d, S1, l1, ra1, r1, p1⟩ => ⟨m1, ρ, S1, ra1, re.mono l1, Post.imp (Post.bind p1) fun y H2 ⟨m2, d2, S2, l2, ra2, r2, p2⟩ => by
      obtain ⟨k, hk, p3⟩ := post_opt p2
      exact ⟨m2, S2, d, d2, k, ra2, r1.mono l2, r2, hk, k, rfl, p3.now ra2 rfl⟩⟩⟩
theorem de_ife (hc : PT X c (tDT X C G W D')) (ha : PE X a (tD X C G W A)) (hb : PE X b (tD X C G W B)) : PE X (.IfExp c a b pos) (tD X C G W (.ife D' A B)) :=
  PE_imp (pe_ifExp hc ha hb) fun σ H Q ⟨m, ρ, S, ra, re, p⟩ => ⟨m, ρ, S, ra, re, Post.imp (Post.bind (rel1 := relEq) p) fun k H1 ⟨m1, d, S1, l1, ra1, r1, p1⟩ => by
    have r1' : d = k := r1
    subst r1'
    cases d with
    | true => exact ⟨m1, ρ, S1, ra1, re.mono l1, p1⟩
    | false => exact ⟨m1, ρ, S1, ra1, re.mono l1, p1⟩⟩
theorem da_nil : PA X [] (tDs X C G W .nil) := PA_imp pa_nil fun σ H Q ⟨m, ρ, S, ra, re, p⟩ => p.now ra .nil
theorem da_cons {es : List Expr} (ha : PE X e (tD X C G W A)) (hr : PA X es (tDs X C G W B)) (hs : starEach (e :: es) X.env = (false, eval e X.env) :: starEach es X.env := by rfl) : PA X (e :: es) (tDs X C G W (.cons A B)) :=
  PA_imp (pa_cons ha hr hs) fun σ H Q ⟨m, ρ, S, ra, re, p⟩ => ⟨m, ρ, S, ra, re, Post.imp (Post.bind p) fun x H1 ⟨m1, d, S1, l1, ra1, r1, p1⟩ =>
    ⟨m1, ρ, S1, ra1, re.mono l1, Post.imp (Post.bind p1) fun xs H2 ⟨m2, ds, S2, l2, ra2, r2, p2⟩ => p2.now ra2 (.cons (r1.mono l2) r2)⟩⟩
theorem dk_nil : PK X [] (tDs X C G W .nil) := PK_imp pk_nil fun σ H Q ⟨m, ρ, S, ra, re, p⟩ => p.now ra .nil
theorem dk_cons {es : List Keyword} {nm : Option Str} {kpos : Pos} (ha : PE X e (tD X C G W A)) (hr : PK X es (tDs X C G W B)) : PK X (⟨nm, e, kpos⟩ :: es) (tDs X C G W (.cons A B)) :=
  PK_imp (pk_cons ha hr) fun σ H Q ⟨m, ρ, S, ra, re, p⟩ => ⟨m, ρ, S, ra, re, Post.imp (Post.bind p) fun x H1 ⟨m1, d, S1, l1, ra1, r1, p1⟩ =>
    ⟨m1, ρ, S1, ra1, re.mono l1, Post.imp (Post.bind p1) fun xs H2 ⟨m2, ds, S2, l2, ra2, r2, p2⟩ => p2.now ra2 (.cons (r1.mono l2) r2)⟩⟩
theorem dp_none : PO X none (tDp X C G W .nil) := PO_imp po_none fun σ H Q ⟨m, ρ, S, ra, re, p⟩ => p.now ra rfl
theorem dp_some (ha : PE X e (tD X C G W A)) : PO X (some e) (tDp X C G W (.cons A .nil)) :=
  PO_imp (po_some ha) fun σ H Q ⟨m, ρ, S, ra, re, p⟩ => ⟨m, ρ, S, ra, re, Post.imp (asI_rp p) fun x H1 ⟨m1, i, S1, e1, l1, ra1, p1⟩ => ⟨i, e1, p1.now ra1 rfl⟩⟩
theorem de_ix {cb : Bool} (cx : Ctx cb X) (ha : PE X a (tD X C G W A)) (hb : PE X b (tD X C G W B)) (hs : PlainIx b := by exact fun _ _ => rfl) : PE X (.Subscript a b pos) (tD X C G W (.ix A B)) :=
  PE_imp (pe_ix (ix_any cx) ha hb hs) fun σ H Q ⟨m, ρ, S, ra, re, p⟩ => ⟨m, ρ, S, ra, re, Post.imp (Post.bind p) fun x H1 ⟨m1, d, S1, l1, ra1, r1, p1⟩ =>
    ⟨m1, ρ, S1, ra1, re.mono l1, Post.imp (Post.bind p1) fun y H2 ⟨m2, d2, S2, l2, ra2, r2, p2⟩ => by
      obtain ⟨z, hz, p3⟩ := post_opt p2
      exact ⟨m2, S2, d, d2, z, ra2, r1.mono l2, r2, hz, fun v rv => p3.now ra2 rv⟩⟩⟩
theorem de_sl {lo hi : Option Expr} {p2 : Pos} (ha : PE X a (tD X C G W A)) (hl : PO X lo (tDp X C G W B)) (hh : PO X hi (tDp X C G W D')) : PE X (.Subscript a (.Slice lo hi none p2) pos) (tD X C G W (.sl A B D')) :=
  PE_imp (pe_slice sl_any ha hl hh) fun σ H Q ⟨m, ρ, S, ra, re, p⟩ => ⟨m, ρ, S, ra, re, Post.imp (Post.bind p) fun x H1 ⟨m1, d, S1, l1, ra1, r1, p1⟩ =>
    ⟨m1, ρ, S1, ra1, re.mono l1, Post.imp (Post.bind (rel1 := relEq) p1) fun o H2 ⟨m2, o', S2, l2, ra2, r2, p2⟩ => by
      have r2' : o' = o := r2
      subst r2'
      exact ⟨m2, ρ, S2, ra2, (re.mono l1).mono l2, Post.imp (Post.bind (rel1 := relEq) p2) fun u H3 ⟨m3, u', S3, l3, ra3, r3, p3⟩ => by
        have r3' : u' = u := r3
        subst r3'
        exact ⟨_, m3, S3, d, ra3, (r1.mono l2).mono l3, p3⟩⟩⟩⟩
theorem le1000 {n : Nat} (h : n ≤ 1000) : n ≤ sizeLine := Nat.le_trans h (by decide)
theorem de_tup {es : List Expr} {k : Nat} (h : PA X es (tDs X C G W A)) : PE X (.Tuple es k pos) (tD X C G W (.tup A)) :=
  PE_imp (pe_tup h) fun σ H Q ⟨m, ρ, S, ra, re, p⟩ => ⟨m, ρ, S, ra, re, Post.imp (Post.bind p) fun xs H1 ⟨m1, ds, S1, l1, ra1, r1, p1⟩ => by
    by_cases c : ds.length ≤ 1000
    · rw [if_pos c] at p1
      exact ⟨by rw [r1.length]; exact le1000 c, post_tup ra1 r1 p1⟩
    · rw [if_neg c] at p1
      exact p1.elim⟩
theorem de_lst {es : List Expr} (h : PA X es (tDs X C G W A)) : PE X (.List es pos) (tD X C G W (.lst A)) :=
  PE_imp (pe_lst h) fun σ H Q ⟨m, ρ, S, ra, re, p⟩ => ⟨m, ρ, S, ra, re, Post.imp (Post.bind p) fun xs H1 ⟨m1, ds, S1, l1, ra1, r1, p1⟩ => by
    by_cases c : ds.length ≤ 1000
    · rw [if_pos c] at p1
      exact ⟨by rw [r1.length]; exact le1000 c, post_mk ra1 r1 p1⟩
    · rw [if_neg c] at p1
      exact p1.elim⟩
theorem de_biB {x : Str} {id : String} {bb : Bi} {es : List Expr} {p : Pos} {cb : Bool} (cx : Ctx cb X) (hx : x ∈ bnames) (hc : CallR X (.builtin id) (rBi X.kw X.mg bb)) (hg : Gl X x) (hv : bootBuiltins x = some (.builtin id)) (ha : PA X (e :: es) (tDs X C G W A))
    (hn : x ≠ "__name__" := by decide) (hdb : (x == ("__debug__" : Str)) = false := by decide) (he : starEach (e :: es) X.env = (false, eval e X.env) :: starEach es X.env := by rfl) (hpl : (backTo pos (starEach es X.env)).any (·.1) = false := by rfl) :
    PE X (.Call (.Name x p) (e :: es) [] pos) (tD X C G W (.bi bb A)) :=
  PE_imp (pe_callB hc hg (cx.nob x hx) hv ha hn hdb he hpl) fun σ H Q ⟨m, ρ, S, ra, re, p⟩ => ⟨m, ρ, S, ra, re, Post.imp (Post.bind p) fun xs H1 ⟨m1, ds, S1, l1, ra1, r1, p1⟩ => ⟨_, m1, S1, ds, ra1, r1, p1⟩⟩
theorem de_biT {x : Str} {T : String} {bb : Bi} {es : List Expr} {p : Pos} {cb : Bool} (cx : Ctx cb X) (hx : x ∈ bnames) (hc : CallR X (.type T) (rBi X.kw X.mg bb)) (hg : Gl X x) (hv : bootBuiltins x = some (.type T)) (ha : PA X (e :: es) (tDs X C G W A))
    (hn : x ≠ "__name__" := by decide) (hdb : (x == ("__debug__" : Str)) = false := by decide) (he : starEach (e :: es) X.env = (false, eval e X.env) :: starEach es X.env := by rfl) (hpl : (backTo pos (starEach es X.env)).any (·.1) = false := by rfl) :
    PE X (.Call (.Name x p) (e :: es) [] pos) (tD X C G W (.bi bb A)) :=
  PE_imp (pe_callTy hc hg (cx.nob x hx) hv ha hn hdb he hpl) fun σ H Q ⟨m, ρ, S, ra, re, p⟩ => ⟨m, ρ, S, ra, re, Post.imp (Post.bind p) fun xs H1 ⟨m1, ds, S1, l1, ra1, r1, p1⟩ => ⟨_, m1, S1, ds, ra1, r1, p1⟩⟩
theorem de_dnew : PE X (.Dict [] [] pos) (tD X C G W .dnew) :=
  PE_imp pe_dnewK fun σ H Q ⟨m, ρ, S, ra, re, p⟩ q hq => by
    have p0 : Post X.kw X.mg (fun c d H' => W c d σ H') (Rp X.kw X.mg) m H (mk (.dic []) S) Q := p
    exact p0 (m ++ [(q, false)]) _ (.ref q) (Le.alloc hq) (ra.allocO hq ⟨[], rfl, upd_same, rfl, .nil⟩) (.loc (ra.at_new q))
theorem de_frzv (ha : PE X a (tD X C G W A)) : PE X a (tD X C G W (.frzv A)) := by
  refine ⟨fun pins s σ H Q I ⟨m, ρ, S, ra, re, p⟩ => ?_⟩
  have p0 : Post X.kw X.mg (fun c d H' => W c d σ H') (Rp X.kw X.mg) m H (trim S ((ev C G A ρ S).bind fun x S1 => frzD x S1)) Q := p
  refine thn (ha.run pins s σ H _ I ⟨m, ρ, S, ra, re, Post.bind (Post.trim ra p0)⟩) fun v s1 ⟨x, H1, I1, r1, m1, d, S1, l1, ra1, rp1, p1⟩ => ?_
  have keep : ∀ {d' : D}, Post X.kw X.mg (fun c d H' => W c d σ H') (Rp X.kw X.mg) m1 H1 (.ok d S1) Q → EP X pins σ Q v s1 := fun {d'} q => ⟨x, H1, I1, r1, q.now ra1 rp1⟩
  cases rp1 with
  | @loc n a b t =>
    have p2 : Post X.kw X.mg (fun c d H' => W c d σ H') (Rp X.kw X.mg) m1 H1 (match S1[n]? with
      | some (.lst ds) => .ok (.fl ds) (S1.set n (.frz ds))
      | some (.dic kvs) => .ok (.fd (kvs.map (·.1)) (kvs.map (·.2))) (S1.set n (.fdic kvs))
      | some (.dn kvs) => .ok (.fm (kvs.map (·.1)) (kvs.map (·.2))) (S1.set n (.fdn kvs))
      | _ => .ok (.loc n) S1) Q := p1
    cases q : S1[n]? with
    | none => rw [q] at p2; exact keep (d' := .non) p2
    | some so =>
      rw [q] at p2
      cases so with
      | lst ds =>
        obtain ⟨vs, hb, g1, g2⟩ := ra1.at_ n (a, b) _ t q
        have hb' : b = false := hb
        subst hb'
        obtain ⟨od, I2⟩ := I1.lock g1 trivial
        have l2 : Le m1 m1 H1 (upd H1 a (.frz od (.lst vs))) := Le.writeO t g1 trivial
        exact ⟨.ref a, _, I2, r1, p2 m1 _ _ l2 (ra1.writeO t g1 trivial ⟨vs, .inl ⟨rfl, od, upd_same⟩, g2.mono l2⟩) (.fl upd_same (g2.mono l2))⟩
      | dic kvs =>
        obtain ⟨ks, hb, g1, g2⟩ := ra1.at_ n (a, b) _ t q
        have hb' : b = false := hb
        subst hb'
        obtain ⟨od, I2⟩ := I1.lock g1 trivial
        have l2 : Le m1 m1 H1 (upd H1 a (.frz od (.dK ks))) := Le.writeO t g1 trivial
        exact ⟨.ref a, _, I2, r1, p2 m1 _ _ l2 (ra1.writeO t g1 trivial ⟨ks, od, rfl, upd_same, kvs_mono g2 l2⟩) (.fd upd_same g2.1 (g2.2.mono l2))⟩
      | dn kvs =>
        obtain ⟨ks, hb, g1, g2⟩ := ra1.at_ n (a, b) _ t q
        have hb' : b = false := hb
        subst hb'
        obtain ⟨od, I2⟩ := I1.lock g1 trivial
        have l2 : Le m1 m1 H1 (upd H1 a (.frz od (DnO X.w a ks))) := Le.writeO t g1 trivial
        have g3 := g2.mov l2.lt
        exact ⟨.ref a, _, I2, r1, p2 m1 _ _ l2 (ra1.writeO t g1 trivial ⟨ks, od, rfl, upd_same, g3⟩) (.fm upd_same g3.1 (by rw [g3.1]; exact g3.2.1) g3.2.2)⟩
      | _ => exact keep (d' := .non) p2
  | _ => exact keep (d' := .non) p1
def rMt (K : KW) (mg : Str → Option Value) (mm : Mt) : V → List V → Hp → VK → Prop := fun x xs H Q => ∃ W m S d es, RelA K mg m H S ∧ Rp K mg m H d x ∧ Rps K mg m H es xs ∧ Post K mg W (Rp K mg) m H (mtD mm d es S) Q
theorem mt_open {K : KW} {mg : Str → Option Value} {mm : Mt} {x : V} {xs : List V} {H : Hp} {Q : VK} (h : rMt K mg mm x xs H Q) :
    ∃ (m : Mp) (S : Sto) (a : Addr) (ds es : List D) (vs : List V) (r : D) (ys : List D), x = .ref a ∧ H a = some (.lst vs) ∧ RelA K mg m H S ∧ Rps K mg m H ds vs ∧ Rps K mg m H es xs ∧ mtL mm ds es S = some (r, ys) ∧
      ∀ ws v, Rps K mg m H ys ws → Rp K mg m H r v → Q v (upd H a (.lst ws)) := by
  obtain ⟨W, m, S, d, es, ra, rx, rs, p⟩ := h
  cases rx with
  | @loc n a b t =>
    have p1 : Post K mg W (Rp K mg) m H (match S[n]? with
      | some (.lst ds) => mtW n S (mtL mm ds es S)
      | _ => .bad) Q := p
    cases hl : S[n]? with
    | none => rw [hl] at p1; exact p1.elim
    | some so =>
      rw [hl] at p1
      cases so with
      | lst ds =>
        have p2 : Post K mg W (Rp K mg) m H (mtW n S (mtL mm ds es S)) Q := p1
        obtain ⟨vs, h1, h2⟩ := ra.lst t hl
        cases hm : mtL mm ds es S with
        | none => rw [hm] at p2; exact p2.elim
        | some q =>
          rw [hm] at p2
          refine ⟨m, S, a, ds, es, vs, q.1, q.2, rfl, h1, ra, h2, rs, hm, fun ws v r1 r2 => ?_⟩
          have l : Le m m H (upd H a (.lst ws)) := Le.write ra t hl h1
          exact p2 m _ v l (ra.write t hl h1 r1) (r2.mono l)
      | _ => exact p1.elim
  | _ => exact p.elim
theorem rps_take {K : KW} {mg : Str → Option Value} {m : Mp} {H : Hp} : ∀ {ds : List D} {vs : List V} (n : Nat), Rps K mg m H ds vs → Rps K mg m H (ds.take n) (vs.take n)
  | _, _, 0, _ => .nil
  | _, _, n + 1, .nil => .nil
  | _, _, n + 1, .cons h hs => .cons h (rps_take n hs)
theorem rps_drop {K : KW} {mg : Str → Option Value} {m : Mp} {H : Hp} : ∀ {ds : List D} {vs : List V} (n : Nat), Rps K mg m H ds vs → Rps K mg m H (ds.drop n) (vs.drop n)
  | _, _, 0, h => h
  | _, _, n + 1, .nil => .nil
  | _, _, n + 1, .cons h hs => rps_drop n hs
theorem rps_erase {K : KW} {mg : Str → Option Value} {m : Mp} {H : Hp} {ds : List D} {vs : List V} (n : Nat) (h : Rps K mg m H ds vs) : Rps K mg m H (ds.eraseIdx n) (vs.eraseIdx n) := by
  rw [List.eraseIdx_eq_take_drop_succ, List.eraseIdx_eq_take_drop_succ]
  exact (rps_take n h).append (rps_drop _ h)
structure MtI (X : Cx) (mm : Mt) (name : Str) : Prop where
  ex : ∃ id : String, Slot "list" name id ∧ typeOf (.builtin id) = pure (.type "method_descriptor") ∧ MtR X id (rMt X.kw X.mg mm)
theorem mi_append : MtI X .append "append" := ⟨_, PySem.F.slot_list_append, PySem.F.type_list_append, fun pins s σ H x xs v us Q I rx rv h => by
  obtain ⟨m, S, a, ds, es, vs, r, ys, rfl, h1, ra, r1, r2, hm, q⟩ := mt_open h
  match es, r2, hm with
  | [d], r2, hm =>
    obtain ⟨y, rfl, ry⟩ := rps1 r2
    have hm' : (if ds.length < sizeLine then some (D.non, ds ++ [d]) else none) = some (r, ys) := hm
    by_cases c : ds.length < sizeLine
    · rw [if_pos c] at hm'
      cases hm'
      exact mt_append pins s σ H _ _ v us Q I rx rv ⟨a, vs, y, rfl, rfl, h1, by rw [r1.length]; exact c, q _ _ (r1.append (.cons ry .nil)) .non⟩
    · rw [if_neg c] at hm'
      cases hm'
  | [], _, hm => cases hm
  | _ :: _ :: _, _, hm => cases hm⟩
theorem mi_popAt : MtI X .popAt "pop" := ⟨_, PySem.F.slot_list_pop, PySem.F.type_list_pop, fun pins s σ H x xs v us Q I rx rv h => by
  obtain ⟨m, S, a, ds, es, vs, r, ys, rfl, h1, ra, r1, r2, hm, q⟩ := mt_open h
  match es, r2, hm with
  | [.int i], .cons (.int _) .nil, hm =>
    have hm' : (if decide (-(2 ^ 63) ≤ i) && decide (i < 2 ^ 63) then (seqIndex? i ds.length).bind fun k => (ds[k]?).map fun y => (y, ds.eraseIdx k) else none) = some (r, ys) := hm
    by_cases c : (decide (-(2 ^ 63) ≤ i) && decide (i < 2 ^ 63)) = true
    · rw [if_pos c] at hm'
      simp only [Bool.and_eq_true, decide_eq_true_eq] at c
      cases hk : seqIndex? i ds.length with
      | none => rw [hk] at hm'; cases hm'
      | some k =>
        rw [hk] at hm'
        have hm2 : ((ds[k]?).map fun y => (y, ds.eraseIdx k)) = some (r, ys) := hm'
        cases hy : ds[k]? with
        | none => rw [hy] at hm2; cases hm2
        | some y =>
          rw [hy] at hm2
          cases hm2
          obtain ⟨w, g1, g2⟩ := r1.get hy
          exact mt_popAt pins s σ H _ _ v us Q I rx rv ⟨a, vs, i, k, w, rfl, rfl, h1, c.1, c.2, by rw [r1.length]; exact hk, g1, q _ _ (rps_erase k r1) g2⟩
    · rw [if_neg c] at hm'
      cases hm'
  | [], _, hm => cases hm
  | .non :: _, _, hm => cases hm
  | .bl _ :: _, _, hm => cases hm
  | .str _ :: _, _, hm => cases hm
  | .tup _ :: _, _, hm => cases hm
  | .loc _ :: _, _, hm => cases hm
  | .ty _ :: _, _, hm => cases hm
  | .fn _ :: _, _, hm => cases hm
  | .fl _ :: _, _, hm => cases hm
  | .fd _ _ :: _, _, hm => cases hm
  | .int _ :: _ :: _, _, hm => cases hm⟩
theorem mi_insert : MtI X .insert "insert" := ⟨_, PySem.F.slot_list_insert, PySem.F.type_list_insert, fun pins s σ H x xs v us Q I rx rv h => by
  obtain ⟨m, S, a, ds, es, vs, r, ys, rfl, h1, ra, r1, r2, hm, q⟩ := mt_open h
  match es, r2, hm with
  | [.int i, y], .cons (.int _) (.cons ry .nil), hm =>
    rename_i vy
    have hm' : (if decide (ds.length < sizeLine) && (decide (0 ≤ i) && decide (i < 2 ^ 63)) then some (D.non, ds.take i.toNat ++ [y] ++ ds.drop i.toNat) else none) = some (r, ys) := hm
    by_cases c : (decide (ds.length < sizeLine) && (decide (0 ≤ i) && decide (i < 2 ^ 63))) = true
    · rw [if_pos c] at hm'
      cases hm'
      simp only [Bool.and_eq_true, decide_eq_true_eq] at c
      exact mt_insert pins s σ H _ _ v us Q I rx rv ⟨a, vs, i, vy, rfl, rfl, h1, by rw [r1.length]; exact c.1, c.2.1, c.2.2, q _ _ (((rps_take _ r1).append (.cons ry .nil)).append (rps_drop _ r1)) .non⟩
    · rw [if_neg c] at hm'
      cases hm'
  | [], _, hm => cases hm
  | .non :: _, _, hm => cases hm
  | .bl _ :: _, _, hm => cases hm
  | .str _ :: _, _, hm => cases hm
  | .tup _ :: _, _, hm => cases hm
  | .loc _ :: _, _, hm => cases hm
  | .ty _ :: _, _, hm => cases hm
  | .fn _ :: _, _, hm => cases hm
  | .fl _ :: _, _, hm => cases hm
  | .fd _ _ :: _, _, hm => cases hm
  | [.int _], _, hm => cases hm
  | .int _ :: _ :: _ :: _, _, hm => cases hm⟩
theorem de_mt {mm : Mt} {name : Str} {o : Expr} {es : List Expr} {apos cpos : Pos} (hi : MtI X mm name) (ho : PE X o (tD X C G W A)) (ha : PA X (e :: es) (tDs X C G W B))
    (hbase : attributeBase o name X.env (eval o X.env) = eval o X.env := by rfl)
    (hfew : ((backTo cpos (starEach (e :: es) X.env)).all (fun x => !x.1) && (backToKw cpos (keywordEach [] X.env)).all (fun x => x.1.isSome)
      && decide ((e :: es).length + ([] : List Keyword).length + (if ([] : List Keyword).isEmpty then 0 else 1) < 30)) = true := by rfl)
    (hline : (apos.endLine == cpos.line) = true := by rfl) (hs : starEach (e :: es) X.env = (false, eval e X.env) :: starEach es X.env := by rfl) (hplain : (backTo cpos (starEach es X.env)).any (·.1) = false := by rfl) :
    PE X (.Call (.Attribute o name apos) (e :: es) [] cpos) (tD X C G W (.mt mm A B)) := by
  obtain ⟨id, hsl, hty, hr⟩ := hi.ex
  exact PE_imp (pe_bm PySem.F.plainAttrs_list hsl hty hr ho ha hbase hfew hline hs hplain) fun σ H Q ⟨m, ρ, S, ra, re, p⟩ =>
    ⟨m, ρ, S, ra, re, Post.imp (Post.bind p) fun x H1 ⟨m1, d, S1, l1, ra1, r1, p1⟩ => by
      by_cases c : isLst d S1 = true
      · rw [if_pos c] at p1
        cases r1 with
        | @loc n q _ t =>
          have c' : (lstAt S1 n).isSome = true := c
          obtain ⟨xs0, hx0⟩ := Option.isSome_iff_exists.mp c'
          obtain ⟨vs0, h1, h2⟩ := ra1.seq t hx0
          exact ⟨.inl ⟨rfl, vs0, h1⟩, m1, ρ, S1, ra1, re.mono l1, Post.imp (Post.bind p1) fun ys H2 ⟨m2, ds, S2, l2, ra2, r2, p2⟩ => ⟨_, m2, S2, .loc n, ds, ra2, (Rp.loc t).mono l2, r2, p2⟩⟩
        | _ => cases c
      · rw [if_neg c] at p1
        exact p1.elim⟩
end
end CC
namespace CC
open PySem PySem.Spec PyProof.Rows L2
def SqK (k : Bool) (K : PySem.W.Frag) (H : Hp) (a : Addr) (xs : List V) : Prop := match k with
  | true => SqL K H a xs
  | false => SqT K H a xs
def ItK (k : Bool) (h : Heap) (it l : Addr) (i : Nat) : Prop := match k with
  | true => h.IsListIter it l i
  | false => h.IsTupleIter it l i
def OfK (k : Bool) (h : Heap) (l : Addr) (us : Array Value) : Prop := match k with
  | true => h.IsList l us
  | false => h.IsTuple l us
def obK (k : Bool) (l : Addr) : Obj := match k with
  | true => { cls := .type "list_iterator", data := .fields #[.ref l, .int 0 0] }
  | false => { cls := .type "tuple_iterator", data := .fields #[.ref l, .int 0 0] }
theorem beginsK (k : Bool) (l : Addr) (us : Array Value) : Begins (.ref l) (obK k l) (fun h => OfK k h l us) := by
  cases k
  · exact begins_tuple l us
  · exact begins_list l us
theorem obK_it {k : Bool} {h : Heap} {it l : Addr} (e : h.get? it = some (obK k l)) : ItK k h it l 0 := by
  cases k
  · exact ⟨_, e, rfl, rfl⟩
  · exact ⟨_, e, rfl, rfl⟩
theorem drawsK (k : Bool) {prog : Program} {w : World} {A : Around} (hh : A.handled = none) {it l : Addr} (ne : l ≠ it) (us : Array Value) : Draws prog w A it [it, l] us.size (fun i v => us[i]? = some v) (fun i h => ItK k h it l i ∧ OfK k h l us) := by
  cases k
  · exact Draws.tuple hh it l ne us
  · exact Draws.list hh it l ne us
theorem ItK.to {k : Bool} {h h' : Heap} {it l : Addr} {i : Nat} (x : ItK k h it l i) (m : ∀ o, h.get? it = some o → h'.get? it = some o) : ItK k h' it l i := by
  cases k
  · exact Heap.IsTupleIter.at x fun o q => m o q
  · exact Heap.IsListIter.at x fun o q => m o q
theorem ItK.obj {k : Bool} {h : Heap} {it l : Addr} {i : Nat} (x : ItK k h it l i) : ∃ o, h.get? it = some o ∧ ∀ v, o.data ≠ .cell v := by
  cases k
  · obtain ⟨o, e, _, d⟩ := x
    exact ⟨o, e, fun v z => by rw [d] at z; cases z⟩
  · obtain ⟨o, e, _, d⟩ := x
    exact ⟨o, e, fun v z => by rw [d] at z; cases z⟩
theorem OfK.to {k : Bool} {h h' : Heap} {l : Addr} {us : Array Value} (x : OfK k h l us) (m : ∀ o, h.get? l = some o → h'.get? l = some o) : OfK k h' l us := by
  cases k
  · exact Heap.IsTuple.at x fun o q => m o q
  · exact Heap.IsList.at x fun o q => m o q
theorem drawsEnd (k : Bool) {prog : Program} {w : World} {A : Around} (hh : A.handled = none) {it l : Addr} {us : Array Value} {i : Nat} (hi : us.size ≤ i) : Draws prog w A it [it, l] i (fun _ _ => True) (fun j h => j = i ∧ ItK k h it l i ∧ OfK k h l us) where
  live := fun _ _ st => let ⟨o, ho, _⟩ := st.2.1.obj; ⟨o, ho⟩
  frame := fun _ _ _ st m => ⟨st.1, st.2.1.to (m it (by simp)), st.2.2.to (m l (by simp))⟩
  item := fun j s Q E hj st _ => absurd st.1 (Nat.ne_of_lt hj)
  done := fun s Q E st hE => by
    obtain ⟨_, s1, s2⟩ := st
    cases k
    · exact wpAny_nextOf_tuple_end hh s1 s2 (by simp; omega) hE
    · exact wpAny_nextOf_list_end hh s1 s2 (by simp; omega) hE
theorem curK (k : Bool) {prog : Program} {w : World} {A : Around} (hh : A.handled = none) {it l : Addr} (ne : l ≠ it) {us : Array Value} {i : Nat} {h : Heap} (q1 : ItK k h it l i) (q2 : OfK k h l us) :
    ∃ (n : Nat) (P : Nat → Value → Prop) (St : Nat → Heap → Prop), Draws prog w A it [it, l] n P St ∧ St i h ∧ i ≤ n ∧ (us.size ≤ i → i = n) := by
  by_cases c : us.size ≤ i
  · exact ⟨_, _, _, drawsEnd k hh c, ⟨rfl, q1, q2⟩, Nat.le_refl _, fun _ => rfl⟩
  · exact ⟨_, _, _, drawsK k hh ne us, ⟨q1, q2⟩, by omega, fun z => absurd z c⟩
section
variable {X : Cx} {pins : List (Addr × Obj)} {σ : L2.St} {H : Hp} {s : Shared} {k : Bool} {a : Addr} {xs ys : List V}
theorem SqK.vals (I : Inv X pins σ H s) (h : SqK k X.K H a xs) : ∃ us : List Value, Vals xs us ∧ OfK k s.heap a us.toArray ∧ a < s.heap.objs.size := by
  cases k
  · obtain ⟨us, r, p, _⟩ := I.tuple h
    obtain ⟨o, e, _⟩ := id p
    exact ⟨us, r, p, Heap.lt_size e⟩
  · obtain ⟨us, r, p, _⟩ := I.list h
    exact ⟨us, r, p.isList, p.lt⟩
theorem SqK.one (I : Inv X pins σ H s) (h : SqK k X.K H a xs) (g : SqK k X.K H a ys) : xs = ys := by
  cases k
  · exact I.tuple_inj h g
  · exact I.list_inj h g
end
def ItzK (k1 k2 : Bool) (K : PySem.W.Frag) (a b : Addr) : It :=
  ⟨fun i H => ∃ (xs ys : List V) (x y : V), SqK k1 K H a xs ∧ SqK k2 K H b ys ∧ xs[i]? = some x ∧ ys[i]? = some y,
    fun i H v H' => ∃ T x y, v = .ref T ∧ H T = none ∧ H' = upd H T (.tup [x, y]) ∧ (∀ xs, SqK k1 K H a xs → xs[i]? = some x) ∧ ∀ ys, SqK k2 K H b ys → ys[i]? = some y,
    fun i H => ∃ xs ys : List V, SqK k1 K H a xs ∧ SqK k2 K H b ys ∧ (xs.length ≤ i ∨ ys.length ≤ i)⟩
theorem turnK2 {P : Program} {w : World} {K : PySem.W.Frag} {elts : List Expr} {kk : Nat} {tpos : Pos} {k1 k2 : Bool} {a b z TI TO i1 i2 : Addr} (D : ZipSep2 z TI TO i1 i2 [i1, a] [i2, b]) (na : a ≠ i1) (nb : b ≠ i2) :
    Turn P w K (.Tuple elts kk tpos) (ItzK k1 k2 K a b) [z, TI, TO, i1, i2] z (fun i h => IsZip h z TI TO .none ∧ IsTupOf2 h TI (.ref i1) (.ref i2) ∧ (∃ x y, IsTupOf2 h TO x y) ∧ ItK k1 h i1 a i ∧ ItK k2 h i2 b i) where
  mem := by simp
  obj := fun i h ⟨qz, qT, ⟨x, y, qO⟩, q1, q2⟩ c hc => by
    have e' : c = z ∨ c = TI ∨ c = TO ∨ c = i1 ∨ c = i2 := by simpa using hc
    rcases e' with rfl | rfl | rfl | rfl | rfl
    · exact ⟨_, qz, fun v n => nomatch n⟩
    · exact ⟨_, qT, fun v n => nomatch n⟩
    · exact ⟨_, qO, fun v n => nomatch n⟩
    · exact q1.obj
    · exact q2.obj
  keep := fun i h h' ⟨qz, qT, ⟨x, y, qO⟩, q1, q2⟩ m =>
    ⟨m z (by simp) _ qz, m TI (by simp) _ qT, ⟨x, y, m TO (by simp) _ qO⟩, q1.to (m i1 (by simp)), q2.to (m i2 (by simp))⟩
  item := by
    intro X eP ew eK calm i pins s σ H E I hf st go
    subst eP ew eK
    obtain ⟨qz, qT, ⟨x0, y0, qO⟩, q1, q2⟩ := st
    obtain ⟨xs, ys, x, y, sx, sy, gx, gy⟩ := go
    obtain ⟨us, ru, ou, _⟩ := sx.vals I
    obtain ⟨vs, rv, ov, _⟩ := sy.vals I
    obtain ⟨u, hu, ru1⟩ := ru.get gx
    obtain ⟨v, hv, rv1⟩ := rv.get gy
    have hh : X.A.in1.handled = none := I.ok.hd calm
    have lu : i < us.toArray.size := by simpa using (List.getElem?_eq_some_iff.mp hu).1
    have lv : i < vs.toArray.size := by simpa using (List.getElem?_eq_some_iff.mp hv).1
    have lz : z < s.heap.objs.size := Heap.lt_size qz
    refine wpAny_pyNext_zipD2_item D (drawsK k1 hh na us.toArray) (drawsK k2 hh nb vs.toArray) qz qT qO ⟨q1, ou⟩ ⟨q2, ov⟩ lu lv fun u' v' h' tk pu pv gz gO g1 g2 gT _ same => ?_
    have eu : u' = u := Option.some.inj (pu.symm.trans (by simpa using hu))
    have ev : v' = v := Option.some.inj (pv.symm.trans (by simpa using hv))
    subst eu ev
    refine ⟨_, rfl, wpAny_letOwnedTupleGo_zip (s := { s with heap := h', toks := tk }) gz fun h2 gz2 but => ?_⟩
    have T2 := (but.2 _ (Nat.ne_of_gt lz)).trans gT
    have ok : ObjOk X.prog X.w (upd H s.heap.objs.size (.tup [x, y])) h2 s.heap.objs.size (.tup [x, y]) := ⟨by show 2 ≤ sizeLine; decide, [u', v'], .cons ru1 (.cons rv1 .nil), ⟨_, T2, rfl, _, rfl⟩⟩
    have I1 : Inv X pins σ (upd H s.heap.objs.size (.tup [x, y])) { s with heap := h2, toks := tk } := I.turnedNew (t' := tk) (ch := [z, TI, TO, i1, i2]) (fun c o nc q => (but.2 c fun e => nc (by simp [e])).trans (same c o (fun e => nc (by simp [e])) (fun e => nc (by simp [e])) (fun e => nc (by simp [e])) (fun e => nc (by simp [e])) q)) hf (Nat.le_refl _) ok
    have still : ∀ c o, c ≠ z → c ≠ TO → c ≠ i1 → c ≠ i2 → s.heap.get? c = some o → h2.get? c = some o := fun c o n1 n2 n3 n4 q => (but.2 c n1).trans (same c o n1 n2 n3 n4 q)
    refine ⟨.ref s.heap.objs.size, _, I1, rfl, ⟨_, x, y, rfl, I.hok.fresh (Nat.le_refl _), rfl, fun l hl => by rw [hl.one I sx]; exact gx, fun l hl => by rw [hl.one I sy]; exact gy⟩, ⟨gz2, still _ _ D.TIz D.TITO D.TIi1 D.TIi2 qT, ⟨u', v', (but.2 _ D.TOz).trans gO⟩, ?_, ?_⟩, fun c hc => ?_⟩
    · exact g1.1.to fun o q => (but.2 _ D.zi1.symm).trans q
    · exact g2.1.to fun o q => (but.2 _ D.zi2.symm).trans q
    · have lc : c < s.heap.objs.size := by
        have e' : c = z ∨ c = TI ∨ c = TO ∨ c = i1 ∨ c = i2 := by simpa using hc
        rcases e' with rfl | rfl | rfl | rfl | rfl
        · exact lz
        · exact Heap.lt_size qT
        · exact Heap.lt_size qO
        · obtain ⟨_, e, _⟩ := q1.obj; exact Heap.lt_size e
        · obtain ⟨_, e, _⟩ := q2.obj; exact Heap.lt_size e
      rw [upd_ne (Nat.ne_of_lt lc)]
      exact (hf c hc).1
  done := by
    intro X eP ew eK calm i pins s σ H E I hf st stop
    subst eP ew eK
    obtain ⟨qz, qT, ⟨x0, y0, qO⟩, q1, q2⟩ := st
    obtain ⟨xs, ys, sx, sy, e⟩ := stop
    obtain ⟨us, ru, ou, _⟩ := sx.vals I
    obtain ⟨vs, rv, ov, _⟩ := sy.vals I
    have hh : X.A.in1.handled = none := I.ok.hd calm
    have l1 := ru.length
    have l2 := rv.length
    obtain ⟨n1, P1, S1, D1, g1, le1, z1⟩ := curK k1 (prog := X.prog) (w := X.w) hh na q1 ou
    obtain ⟨n2, P2, S2, D2, g2, le2, z2⟩ := curK k2 (prog := X.prog) (w := X.w) hh nb q2 ov
    refine wpAny_pyNext_zipD2_end D D1 D2 qz qT qO g1 g2 le1 le2 ?_ fun h' tk same => ⟨rfl, I.turnedL (t' := tk) (ch := [z, TI, TO, i1, i2]) (fun c o nc q => same c o (fun e => nc (by simp [e])) (fun e => nc (by simp [e])) (fun e => nc (by simp [e])) (fun e => nc (by simp [e])) q) hf⟩
    rcases e with e | e
    · exact .inl (z1 (by simp; omega))
    · exact .inr (z2 (by simp; omega))
  self := fun A i s Q E st h => wpAny_pyIter_zip st.1 h
theorem notin {x y z : Nat} (h : x ≠ y) (g : x ≠ z) : x ∉ [y, z] := fun q => by
  rcases List.mem_cons.mp q with e | e
  · exact h e
  · exact g (List.mem_singleton.mp e)
theorem sepN (N a b : Nat) (ha : a < N) (hb : b < N) : ZipSep2 (N + 4) (N + 2) (N + 3) N (N + 1) [N, a] [N + 1, b] where
  TIz := fun e => absurd (show N + 2 = N + 4 from e) (by omega)
  TOz := fun e => absurd (show N + 3 = N + 4 from e) (by omega)
  TITO := fun e => absurd (show N + 2 = N + 3 from e) (by omega)
  TIi1 := fun e => absurd (show N + 2 = N from e) (by omega)
  mem1 := List.mem_cons_self
  zf1 := notin (by omega) (by omega)
  Tf1 := notin (by omega) (by omega)
  TIi2 := fun e => absurd (show N + 2 = N + 1 from e) (by omega)
  mem2 := List.mem_cons_self
  zf2 := notin (by omega) (by omega)
  Tf2 := notin (by omega) (by omega)
  sep1_2 := notin (by omega) (by omega)
  sep2_1 := notin (by omega) (by omega)
def iZipK (K : PySem.W.Frag) (ta : TA) : TI := fun σ H R => ta σ H fun ws H1 => ∃ k1 k2 a b xs ys, ws = [.ref a, .ref b] ∧ SqK k1 K H1 a xs ∧ SqK k2 K H1 b ys ∧ R (ItzK k1 k2 K a b) H1
theorem pi_zipK {X : Cx} {e e2 : Expr} {ta : TA} {p pos tpos : Pos} {elts : List Expr} {kk : Nat} (hg : Gl X "zip") (hm : X.mg "zip" = none) (ha : PA X [e, e2] ta)
    (hs : starEach [e, e2] X.env = (false, eval e X.env) :: starEach [e2] X.env := by rfl) (hpl : (backTo pos (starEach [e2] X.env)).any (·.1) = false := by rfl) :
    PI X (.Tuple elts kk tpos) (.Call (.Name "zip" p) [e, e2] [] pos) (iZipK X.K ta) := by
  refine ⟨fun pins s σ H R I h => Call_ (ld_blt I hg hm PyProof.Rows.boot_zip (PyProof.Rows.callWith_type1 (thn (ha.run pos pins s σ H _ I h) fun us s1 ⟨ws, H1, I1, r1, q1⟩ => ?_) hs hpl))⟩
  obtain ⟨k1, k2, a, b, xs, ys, ew, sx, sy, q⟩ := q1
  subst ew
  obtain ⟨v1, v2, rfl, e1, e2'⟩ := vals2 r1
  cases (show v1 = Value.ref a from e1)
  cases (show v2 = Value.ref b from e2')
  obtain ⟨us1, _, o1, la⟩ := sx.vals I1
  obtain ⟨us2, _, o2, lb⟩ := sy.vals I1
  refine zip_begins2 (beginsK k1 a us1.toArray) (beginsK k2 b us2.toArray) o1 o2 fun h' gz gT gO g1 g2 _ same => wpAny_pyIter_zip gz ?_
  have I2 : Inv X pins σ H1 { s1 with heap := h' } := I1.kept (t' := s1.toks) same
  obtain ⟨N, hN⟩ : ∃ N, N = s1.heap.objs.size := ⟨_, rfl⟩
  rw [← hN] at gz gT gO g1 g2 la lb ⊢
  have D := sepN N a b la lb
  refine ⟨N + 4, [N + 4, N + 2, N + 3, N, N + 1], _, _, H1, rfl, I2, turnK2 D (Nat.ne_of_lt la) (Nat.ne_of_lt (Nat.lt_succ_of_lt lb)), ⟨gz, gT, ⟨_, _, gO⟩, obK_it g1, obK_it g2⟩, fun c hc => ?_, q⟩
  have hle : s1.heap.objs.size ≤ c := by
    have e' : c = N + 4 ∨ c = N + 2 ∨ c = N + 3 ∨ c = N ∨ c = N + 1 := by simpa using hc
    rw [← hN]
    rcases e' with e | e | e | e | e <;> rw [e] <;> first | exact Nat.le_add_right _ _ | exact Nat.le_refl _
  exact I1.fpOk hle (I1.hok.fresh hle)
end CC
namespace CC
open PySem PySem.Spec PyProof.Rows L2
mutual
def tslots : Xp → List Nat
  | .var i => [i]
  | .tup t => tslotsL t
  | .lst t => tslotsL t
  | _ => []
def tslotsL : Xp → List Nat
  | .cons a b => tslots a ++ tslotsL b
  | _ => []
end
def Wp (sl : List Nat) (σ σ' : L2.St) : Prop := ∀ vs : List Nat, (∀ i ∈ sl, i ∈ vs) → wipe σ' vs = wipe σ vs
def gT (K : KW) (mg : Str → Option Value) (t : Xp) : TG := fun v σ H Q => ∃ m ρ S d ρ', RelA K mg m H S ∧ RelE K mg m H σ ρ ∧ Rp K mg m H d v ∧ bindT t d ρ = some ρ' ∧ ∀ σ', RelE K mg m H σ' ρ' → Wp (tslots t) σ σ' → Q σ' H
def gTs (K : KW) (mg : Str → Option Value) (t : Xp) : TGs := fun vs σ H Q => ∃ m ρ S ds ρ', RelA K mg m H S ∧ RelE K mg m H σ ρ ∧ Rps K mg m H ds vs ∧ bindL t ds ρ = some ρ' ∧ ∀ σ', RelE K mg m H σ' ρ' → Wp (tslotsL t) σ σ' → Q σ' H
theorem wipe_mem {σ : L2.St} {i : Nat} : ∀ {vs : List Nat}, i ∈ vs → ∀ x, wipe (σ.set i x) vs = wipe σ vs
  | v :: vs, h, x => by
    unfold wipe
    by_cases e : i ∈ vs
    · rw [wipe_mem e x]
    · have hv : i = v := by
        rcases List.mem_cons.mp h with q | q
        · exact q
        · exact absurd q e
      subst hv
      have : ∀ (ws : List Nat), wipe (σ.set i x) ws = (wipe σ ws).set i x ∨ i ∈ ws := by
        intro ws
        induction ws with
        | nil => exact .inl rfl
        | cons w ws ih =>
          by_cases q : i = w
          · exact .inr (by rw [q]; exact List.mem_cons_self)
          · rcases ih with ih | ih
            · refine .inl ?_
              unfold wipe
              rw [ih]
              exact List.set_comm _ _ q
            · exact .inr (List.mem_cons_of_mem _ ih)
      rcases this vs with q | q
      · rw [q, List.set_set]
      · exact absurd q e
theorem PG_imp {X : Cx} {tg : Expr} {t t' : TG} (h : PG X tg t) (i : ∀ v σ H Q, t' v σ H Q → t v σ H Q) : PG X tg t' := ⟨fun pins s σ H v u Q I r q => h.run pins s σ H v u Q I r (i v σ H Q q)⟩
theorem PGs_imp {X : Cx} {tg : List Expr} {t t' : TGs} (h : PGs X tg t) (i : ∀ v σ H Q, t' v σ H Q → t v σ H Q) : PGs X tg t' := ⟨fun pins s σ H v u Q I r q => h.run pins s σ H v u Q I r (i v σ H Q q)⟩
section
variable {X : Cx} {C : CallSem} {G : Nat → Option D} {W : WX} {a b c e : Expr} {A B D' : Xp} {pos : Pos}
theorem dg_name {i : Nat} {x : Str} (h : PG X (.Name x pos) (gName i)) : PG X (.Name x pos) (gT X.kw X.mg (.var i)) :=
  PG_imp h fun v σ H Q ⟨m, ρ, S, d, ρ', ra, re, r, hb, q⟩ => by
    have hb' : some (ρ.set i (some d)) = some ρ' := hb
    cases hb'
    exact q _ (re.set r) fun vs hv => wipe_mem (hv i List.mem_cons_self) _
theorem dgs_nil : PGs X [] (gTs X.kw X.mg .nil) := PGs_imp pgs_nil fun vs σ H Q ⟨m, ρ, S, ds, ρ', ra, re, r, hb, q⟩ => by
  cases ds with
  | nil =>
    have hb' : some ρ = some ρ' := hb
    cases hb'
    cases r
    exact ⟨rfl, q σ re fun _ _ => rfl⟩
  | cons _ _ => cases hb
theorem dgs_cons {es : List Expr} (h1 : PG X e (gT X.kw X.mg A)) (h2 : PGs X es (gTs X.kw X.mg B)) (hs : (assignEach (e :: es) X.env).map (·.2) = assign e X.env :: (assignEach es X.env).map (·.2) := by rfl) :
    PGs X (e :: es) (gTs X.kw X.mg (.cons A B)) := PGs_imp (pgs_cons h1 h2 hs) fun vs σ H Q ⟨m, ρ, S, ds, ρ', ra, re, r, hb, q⟩ => by
  cases ds with
  | nil => cases hb
  | cons d ds =>
    cases r with
    | cons r1 r2 =>
      have hb' : ((bindT A d ρ).bind fun ρ1 => bindL B ds ρ1) = some ρ' := hb
      cases h : bindT A d ρ with
      | none => rw [h] at hb'; cases hb'
      | some ρ1 =>
        rw [h] at hb'
        refine ⟨_, _, rfl, m, ρ, S, d, ρ1, ra, re, r1, h, fun σ1 re1 w1 => ?_⟩
        refine ⟨m, ρ1, S, ds, ρ', ra, re1, r2, hb', fun σ2 re2 w2 => ?_⟩
        exact q σ2 re2 fun vs hv => (w2 vs fun i hi => hv i (List.mem_append_right _ hi)).trans (w1 vs fun i hi => hv i (List.mem_append_left _ hi))
theorem dg_tup {es : List Expr} {k n : Nat} (hc : X.calm = true) (h : PGs X es (gTs X.kw X.mg A)) (hn : (assignEach es X.env).length = n := by rfl) (hst : (assignEach es X.env).findIdx? (·.1) = none := by rfl)
    (hl : ∀ ds ρ ρ', bindL A ds ρ = some ρ' → ds.length = n := by intro ds ρ ρ' z; exact bindL_len z) : PG X (.Tuple es k pos) (gT X.kw X.mg (.tup A)) :=
  PG_imp (pg_tup hc h hn hst) fun v σ H Q ⟨m, ρ, S, d, ρ', ra, re, r, hb, q⟩ => by
    cases r with
    | @tup p vs ds t hs =>
      have hb' : bindL A ds ρ = some ρ' := hb
      exact ⟨p, vs, rfl, t.t, hs.length.trans (hl ds ρ ρ' hb'), m, ρ, S, ds, ρ', ra, re, hs, hb', fun σ' re' w => q σ' re' w⟩
    | _ => cases hb
end
def lenX : Xp → Nat
  | .cons _ b => lenX b + 1
  | _ => 0
theorem bindL_len : ∀ {A : Xp} {ds : List D} {ρ ρ' : Env}, bindL A ds ρ = some ρ' → ds.length = lenX A
  | .nil, [], _, _, _ => rfl
  | .cons a b, d :: ds, ρ, ρ', h => by
    have h' : ((bindT a d ρ).bind fun ρ1 => bindL b ds ρ1) = some ρ' := h
    cases q : bindT a d ρ with
    | none => rw [q] at h'; cases h'
    | some ρ1 =>
      rw [q] at h'
      show ds.length + 1 = lenX b + 1
      rw [bindL_len (A := b) h']
  | .nil, _ :: _, _, _, h => by cases h
  | .cons _ _, [], _, _, h => by cases h
section
variable {K : KW} {mg : Str → Option Value} {m0 : Mp} {H0 : Hp}
theorem src_lst {n : Nat} {a : Addr} {b : Bool} (t : m0[n]? = some (a, b)) : SrcOk K mg m0 H0 (.lst n) (Itl K a) := fun m H S i l ra => by
  have t' := l.pre _ _ t
  refine ⟨fun h => ?_, fun d h => ?_⟩
  · have h' : (lstAt S n).map (fun ds => ds[i]?) = some none := h
    cases q : lstAt S n with
    | none => rw [q] at h'; cases h'
    | some ds =>
      rw [q] at h'
      obtain ⟨vs, h1, h2⟩ := ra.seq t' q
      have h3 : ds[i]? = none := Option.some.inj h'
      exact ⟨vs, h1, by rw [h2.length]; exact List.getElem?_eq_none_iff.mp h3⟩
  · have h' : (lstAt S n).map (fun ds => ds[i]?) = some (some d) := h
    cases q : lstAt S n with
    | none => rw [q] at h'; cases h'
    | some ds =>
      rw [q] at h'
      obtain ⟨vs, h1, h2⟩ := ra.seq t' q
      have h3 : ds[i]? = some d := Option.some.inj h'
      obtain ⟨v, h4, h5⟩ := h2.get h3
      refine ⟨⟨vs, v, h1, h4⟩, fun x H' ⟨e, f⟩ => ?_⟩
      subst e
      have : x = v := Option.some.inj ((f vs h1).symm.trans h4)
      subst this
      exact ⟨Le.refl _ _, ra, h5⟩
theorem src_tup {a : Addr} {vs : List V} {ds : List D} (t : SqU K H0 a vs) (hs : Rps K mg m0 H0 ds vs) : SrcOk K mg m0 H0 (.ds ds) (Itt K a) := fun m H S i l ra => by
  have t' : SqT K H a vs := (sqT_lt l t).t
  have hs' := hs.mov l
  refine ⟨fun h => ?_, fun d h => ?_⟩
  · have h' : ds[i]? = none := Option.some.inj h
    exact ⟨vs, t', by rw [hs'.length]; exact List.getElem?_eq_none_iff.mp h'⟩
  · have h' : ds[i]? = some d := Option.some.inj h
    obtain ⟨v, h4, h5⟩ := hs'.get h'
    refine ⟨⟨vs, v, t', h4⟩, fun x H' ⟨e, f⟩ => ?_⟩
    subst e
    have : x = v := Option.some.inj ((f vs t').symm.trans h4)
    subst this
    exact ⟨Le.refl _ _, ra, h5⟩
theorem src_str {z : Str} : SrcOk K mg m0 H0 (.ds (z.cps.toList.map fun c => .str ⟨#[c]⟩)) (Its z) := fun m H S i l ra => by
  have g : (z.cps.toList.map fun c => D.str ⟨#[c]⟩)[i]? = (z.cps[i]?).map fun c => D.str ⟨#[c]⟩ := by
    rw [List.getElem?_map, Array.getElem?_toList]
  refine ⟨fun h => ?_, fun d h => ?_⟩
  · have h' : (z.cps.toList.map fun c => D.str ⟨#[c]⟩)[i]? = none := Option.some.inj h
    rw [g] at h'
    exact Array.getElem?_eq_none_iff.mp (Option.map_eq_none_iff.mp h')
  · have h' : (z.cps.toList.map fun c => D.str ⟨#[c]⟩)[i]? = some d := Option.some.inj h
    rw [g] at h'
    cases q : z.cps[i]? with
    | none => rw [q] at h'; cases h'
    | some c =>
      rw [q] at h'
      cases h'
      refine ⟨(Array.getElem?_eq_some_iff.mp q).1, fun x H' ⟨e, c', hc, hx⟩ => ?_⟩
      subst e
      rw [q] at hc
      cases hc
      subst hx
      exact ⟨Le.refl _ _, ra, .str _⟩
theorem rangeD_get {lo : Int} {n i : Nat} : (rangeD lo n)[i]? = if i < n then some (.int (lo + (i : Nat))) else none := by
  unfold rangeD
  rw [List.getElem?_map]
  by_cases h : i < n
  · rw [List.getElem?_range h, if_pos h]
    rfl
  · rw [if_neg h, List.getElem?_eq_none (by simpa using h)]
    rfl
theorem src_rng {lo : Int} {n : Nat} : SrcOk K mg m0 H0 (.ds (rangeD lo n)) (Itr lo n) := fun m H S i l ra => by
  refine ⟨fun h => ?_, fun d h => ?_⟩
  · have h' : (rangeD lo n)[i]? = none := Option.some.inj h
    rw [rangeD_get] at h'
    by_cases c : i < n
    · rw [if_pos c] at h'; cases h'
    · exact Nat.le_of_not_lt c
  · have h' : (rangeD lo n)[i]? = some d := Option.some.inj h
    rw [rangeD_get] at h'
    by_cases c : i < n
    · rw [if_pos c] at h'
      cases h'
      refine ⟨c, fun x H' ⟨e, f⟩ => ?_⟩
      subst e
      subst f
      exact ⟨Le.refl _ _, ra, .int _⟩
    · rw [if_neg c] at h'; cases h'
theorem pair_new {m : Mp} {H : Hp} {S : Sto} {T : Addr} {x y : V} {d e : D} (ra : RelA K mg m H S) (hT : H T = none) (rx : Rp K mg m H d x) (ry : Rp K mg m H e y) :
    Le m m H (upd H T (.tup [x, y])) ∧ RelA K mg m (upd H T (.tup [x, y])) S ∧ Rp K mg m (upd H T (.tup [x, y])) (.tup [d, e]) (.ref T) :=
  ⟨Le.new hT, ra.new hT, .tup (.inl upd_same) (.cons (rx.mono (Le.new hT)) (.cons (ry.mono (Le.new hT)) .nil))⟩
theorem src_fl {a : Addr} {o : Obj} {vs : List V} {ds : List D} (t : H0 a = some (.frz o (.lst vs))) (hs : Rps K mg m0 H0 ds vs) : SrcOk K mg m0 H0 (.ds ds) (Itl K a) := fun m H S i l ra => by
  have t' : SqL K H a vs := .inl (.inr ⟨o, l.fz _ _ _ t⟩)
  have hs' := hs.mov l
  refine ⟨fun h => ?_, fun d h => ?_⟩
  · have h' : ds[i]? = none := Option.some.inj h
    exact ⟨vs, t', by rw [hs'.length]; exact List.getElem?_eq_none_iff.mp h'⟩
  · have h' : ds[i]? = some d := Option.some.inj h
    obtain ⟨v, h4, h5⟩ := hs'.get h'
    refine ⟨⟨vs, v, t', h4⟩, fun x H' ⟨e, f⟩ => ?_⟩
    subst e
    have : x = v := Option.some.inj ((f vs t').symm.trans h4)
    subst this
    exact ⟨Le.refl _ _, ra, h5⟩
theorem enumL_get : ∀ {ds : List D} {k i : Nat}, (enumL k ds)[i]? = ds[i]?.map fun x => D.tup [.int ((k + i : Nat) : Int), x]
  | [], k, i => by simp [enumL]
  | d :: ds, k, 0 => by simp [enumL]
  | d :: ds, k, i + 1 => by
    show (enumL (k + 1) ds)[i]? = _
    rw [enumL_get, List.getElem?_cons_succ]
    congr 1
    funext x
    congr 4
    omega
theorem src_enumF {a : Addr} {o : Obj} {vs : List V} {ds : List D} (t : H0 a = some (.frz o (.lst vs))) (hs : Rps K mg m0 H0 ds vs) : SrcOk K mg m0 H0 (.ds (enumL 0 ds)) (Ite K a) := fun m H S i l ra => by
  have t' : SqL K H a vs := .inl (.inr ⟨o, l.fz _ _ _ t⟩)
  have hs' := hs.mov l
  have g : (enumL 0 ds)[i]? = ds[i]?.map fun x => D.tup [.int ((i : Nat) : Int), x] := by
    rw [enumL_get, Nat.zero_add]
  refine ⟨fun h => ?_, fun d h => ?_⟩
  · have h' : (enumL 0 ds)[i]? = none := Option.some.inj h
    rw [g] at h'
    exact ⟨vs, t', by rw [hs'.length]; exact List.getElem?_eq_none_iff.mp (Option.map_eq_none_iff.mp h')⟩
  · have h' : (enumL 0 ds)[i]? = some d := Option.some.inj h
    rw [g] at h'
    cases q2 : ds[i]? with
    | none => rw [q2] at h'; cases h'
    | some y =>
      rw [q2] at h'
      cases h'
      obtain ⟨v, h4, h5⟩ := hs'.get q2
      refine ⟨⟨vs, v, t', h4⟩, fun x H' ⟨T, x', e1, hT, e2, f⟩ => ?_⟩
      have : x' = v := Option.some.inj ((f vs t').symm.trans h4)
      subst this e1 e2
      exact pair_new ra hT (.int _) h5
theorem src_zipM {n : Nat} {a a' : Addr} {b : Bool} {o' : Obj} {ws : List V} {es : List D} (t : m0[n]? = some (a, b)) (u : H0 a' = some (.frz o' (.lst ws))) (hs2 : Rps K mg m0 H0 es ws) : SrcOk K mg m0 H0 (.zipF n es) (Itz K a a') := fun m H S i l ra => by
  have t' := l.pre _ _ t
  have u' : SqL K H a' ws := .inl (.inr ⟨o', l.fz _ _ _ u⟩)
  have h4 := hs2.mov l
  have key : ∀ o, (Src.zipF n es).get i S = some o → ∃ ds vs, SqL K H a vs ∧ Rps K mg m H ds vs ∧ o = (ds[i]?.bind fun x => es[i]?.map fun y => D.tup [x, y]) := fun o h => by
    have h' : ((lstAt S n).map fun a => a[i]?.bind fun x => es[i]?.map fun y => D.tup [x, y]) = some o := h
    cases q : lstAt S n with
    | none => rw [q] at h'; cases h'
    | some ds =>
      rw [q] at h'
      obtain ⟨vs, h1, h2⟩ := ra.seq t' q
      exact ⟨ds, vs, h1, h2, (Option.some.inj h').symm⟩
  refine ⟨fun h => ?_, fun d h => ?_⟩
  · obtain ⟨ds, vs, h1, h3, e⟩ := key none h
    refine ⟨vs, ws, h1, u', ?_⟩
    rw [h3.length, h4.length]
    cases q : ds[i]? with
    | none => exact .inl (List.getElem?_eq_none_iff.mp q)
    | some x =>
      cases q2 : es[i]? with
      | none => exact .inr (List.getElem?_eq_none_iff.mp q2)
      | some y => rw [q, q2] at e; cases e
  · obtain ⟨ds, vs, h1, h3, e⟩ := key (some d) h
    cases q : ds[i]? with
    | none => rw [q] at e; cases e
    | some x =>
      cases q2 : es[i]? with
      | none => rw [q, q2] at e; cases e
      | some y =>
        rw [q, q2] at e
        cases e
        obtain ⟨v, g1, r1⟩ := h3.get q
        obtain ⟨w, g2, r2⟩ := h4.get q2
        refine ⟨⟨vs, ws, v, w, h1, u', g1, g2⟩, fun z H' ⟨T, v', w', e1, hT, e2, f1, f2⟩ => ?_⟩
        have ev : v' = v := Option.some.inj ((f1 vs h1).symm.trans g1)
        have ew : w' = w := Option.some.inj ((f2 ws u').symm.trans g2)
        subst ev ew e1 e2
        exact pair_new ra hT r1 r2
theorem src_zipF {a a' : Addr} {o o' : Obj} {vs ws : List V} {ds es : List D} (t : H0 a = some (.frz o (.lst vs))) (hs : Rps K mg m0 H0 ds vs) (u : H0 a' = some (.frz o' (.lst ws))) (hs2 : Rps K mg m0 H0 es ws) :
    SrcOk K mg m0 H0 (.ds ((ds.zip es).map fun p => .tup [p.1, p.2])) (Itz K a a') := fun m H S i l ra => by
  have t' : SqL K H a vs := .inl (.inr ⟨o, l.fz _ _ _ t⟩)
  have u' : SqL K H a' ws := .inl (.inr ⟨o', l.fz _ _ _ u⟩)
  have h3 := hs.mov l
  have h4 := hs2.mov l
  refine ⟨fun h => ?_, fun d h => ?_⟩
  · have h' : ((ds.zip es).map fun p => D.tup [p.1, p.2])[i]? = none := Option.some.inj h
    have h5 := List.getElem?_eq_none_iff.mp h'
    rw [List.length_map, List.length_zip] at h5
    refine ⟨vs, ws, t', u', ?_⟩
    rw [h3.length, h4.length]
    omega
  · have h' : ((ds.zip es).map fun p => D.tup [p.1, p.2])[i]? = some d := Option.some.inj h
    rw [List.getElem?_map] at h'
    cases q0 : (ds.zip es)[i]? with
    | none => rw [q0] at h'; cases h'
    | some p =>
      rw [q0] at h'
      cases h'
      obtain ⟨x, y⟩ := p
      obtain ⟨q, q2⟩ := List.getElem?_zip_eq_some.mp q0
      obtain ⟨v, g1, r1⟩ := h3.get q
      obtain ⟨w, g2, r2⟩ := h4.get q2
      refine ⟨⟨vs, ws, v, w, t', u', g1, g2⟩, fun z H' ⟨T, v', w', e1, hT, e2, f1, f2⟩ => ?_⟩
      have ev : v' = v := Option.some.inj ((f1 vs t').symm.trans g1)
      have ew : w' = w := Option.some.inj ((f2 ws u').symm.trans g2)
      subst ev ew e1 e2
      exact pair_new ra hT r1 r2
theorem src_zip {n k : Nat} {a a' : Addr} {b b' : Bool} (t : m0[n]? = some (a, b)) (u : m0[k]? = some (a', b')) : SrcOk K mg m0 H0 (.zip n k) (Itz K a a') := fun m H S i l ra => by
  have t' := l.pre _ _ t
  have u' := l.pre _ _ u
  have key : ∀ o, (Src.zip n k).get i S = some o → ∃ ds es vs ws, SqL K H a vs ∧ SqL K H a' ws ∧ Rps K mg m H ds vs ∧ Rps K mg m H es ws ∧ o = (ds[i]?.bind fun x => es[i]?.map fun y => D.tup [x, y]) := fun o h => by
    have h' : ((lstAt S n).bind fun a => (lstAt S k).map fun b => a[i]?.bind fun x => b[i]?.map fun y => D.tup [x, y]) = some o := h
    cases q : lstAt S n with
    | none => rw [q] at h'; cases h'
    | some ds =>
      cases q2 : lstAt S k with
      | none => rw [q, q2] at h'; cases h'
      | some es =>
        rw [q, q2] at h'
        obtain ⟨vs, h1, h2⟩ := ra.seq t' q
        obtain ⟨ws, h3, h4⟩ := ra.seq u' q2
        exact ⟨ds, es, vs, ws, h1, h3, h2, h4, (Option.some.inj h').symm⟩
  refine ⟨fun h => ?_, fun d h => ?_⟩
  · obtain ⟨ds, es, vs, ws, h1, h2, h3, h4, e⟩ := key none h
    refine ⟨vs, ws, h1, h2, ?_⟩
    rw [h3.length, h4.length]
    cases q : ds[i]? with
    | none => exact .inl (List.getElem?_eq_none_iff.mp q)
    | some x =>
      cases q2 : es[i]? with
      | none => exact .inr (List.getElem?_eq_none_iff.mp q2)
      | some y => rw [q, q2] at e; cases e
  · obtain ⟨ds, es, vs, ws, h1, h2, h3, h4, e⟩ := key (some d) h
    cases q : ds[i]? with
    | none => rw [q] at e; cases e
    | some x =>
      cases q2 : es[i]? with
      | none => rw [q, q2] at e; cases e
      | some y =>
        rw [q, q2] at e
        cases e
        obtain ⟨v, g1, r1⟩ := h3.get q
        obtain ⟨w, g2, r2⟩ := h4.get q2
        refine ⟨⟨vs, ws, v, w, h1, h2, g1, g2⟩, fun z H' ⟨T, v', w', e1, hT, e2, f1, f2⟩ => ?_⟩
        have ev : v' = v := Option.some.inj ((f1 vs h1).symm.trans g1)
        have ew : w' = w := Option.some.inj ((f2 ws h2).symm.trans g2)
        subst ev ew e1 e2
        exact pair_new ra hT r1 r2
theorem src_zipFT {a a' : Addr} {o : Obj} {vs ws : List V} {ds es : List D} (t : H0 a = some (.frz o (.lst vs))) (hs : Rps K mg m0 H0 ds vs) (u : SqU K H0 a' ws) (hs2 : Rps K mg m0 H0 es ws) :
    SrcOk K mg m0 H0 (.ds ((ds.zip es).map fun p => .tup [p.1, p.2])) (ItzK true false K a a') := fun m H S i l ra => by
  have t' : SqL K H a vs := .inl (.inr ⟨o, l.fz _ _ _ t⟩)
  have u' : SqT K H a' ws := (sqT_lt l u).t
  have h3 := hs.mov l
  have h4 := hs2.mov l
  refine ⟨fun h => ?_, fun d h => ?_⟩
  · have h' : ((ds.zip es).map fun p => D.tup [p.1, p.2])[i]? = none := Option.some.inj h
    have h5 := List.getElem?_eq_none_iff.mp h'
    rw [List.length_map, List.length_zip] at h5
    refine ⟨vs, ws, t', u', ?_⟩
    rw [h3.length, h4.length]
    omega
  · have h' : ((ds.zip es).map fun p => D.tup [p.1, p.2])[i]? = some d := Option.some.inj h
    rw [List.getElem?_map] at h'
    cases q0 : (ds.zip es)[i]? with
    | none => rw [q0] at h'; cases h'
    | some p =>
      rw [q0] at h'
      cases h'
      obtain ⟨x, y⟩ := p
      obtain ⟨q, q2⟩ := List.getElem?_zip_eq_some.mp q0
      obtain ⟨v, g1, r1⟩ := h3.get q
      obtain ⟨w, g2, r2⟩ := h4.get q2
      refine ⟨⟨vs, ws, v, w, t', u', g1, g2⟩, fun z H' ⟨T, v', w', e1, hT, e2, f1, f2⟩ => ?_⟩
      have ev : v' = v := Option.some.inj ((f1 vs t').symm.trans g1)
      have ew : w' = w := Option.some.inj ((f2 ws u').symm.trans g2)
      subst ev ew e1 e2
      exact pair_new ra hT r1 r2
theorem src_zipT {a a' : Addr} {vs ws : List V} {ds es : List D} (t : SqU K H0 a vs) (hs : Rps K mg m0 H0 ds vs) (u : SqU K H0 a' ws) (hs2 : Rps K mg m0 H0 es ws) :
    SrcOk K mg m0 H0 (.ds ((ds.zip es).map fun p => .tup [p.1, p.2])) (RZ.ItzT K a a') := fun m H S i l ra => by
  have t' : SqT K H a vs := (sqT_lt l t).t
  have u' : SqT K H a' ws := (sqT_lt l u).t
  have h3 := hs.mov l
  have h4 := hs2.mov l
  refine ⟨fun h => ?_, fun d h => ?_⟩
  · have h' : ((ds.zip es).map fun p => D.tup [p.1, p.2])[i]? = none := Option.some.inj h
    have h5 := List.getElem?_eq_none_iff.mp h'
    rw [List.length_map, List.length_zip] at h5
    refine ⟨vs, ws, t', u', ?_⟩
    rw [h3.length, h4.length]
    omega
  · have h' : ((ds.zip es).map fun p => D.tup [p.1, p.2])[i]? = some d := Option.some.inj h
    rw [List.getElem?_map] at h'
    cases q0 : (ds.zip es)[i]? with
    | none => rw [q0] at h'; cases h'
    | some p =>
      rw [q0] at h'
      cases h'
      obtain ⟨x, y⟩ := p
      obtain ⟨q, q2⟩ := List.getElem?_zip_eq_some.mp q0
      obtain ⟨v, g1, r1⟩ := h3.get q
      obtain ⟨w, g2, r2⟩ := h4.get q2
      refine ⟨⟨vs, ws, v, w, t', u', g1, g2⟩, fun z H' ⟨T, v', w', e1, hT, e2, f1, f2⟩ => ?_⟩
      have ev : v' = v := Option.some.inj ((f1 vs t').symm.trans g1)
      have ew : w' = w := Option.some.inj ((f2 ws u').symm.trans g2)
      subst ev ew e1 e2
      exact pair_new ra hT r1 r2
theorem src_enum {n : Nat} {a : Addr} {b : Bool} (t : m0[n]? = some (a, b)) : SrcOk K mg m0 H0 (.enum n) (Ite K a) := fun m H S i l ra => by
  have t' := l.pre _ _ t
  refine ⟨fun h => ?_, fun d h => ?_⟩
  · have h' : (lstAt S n).map (fun ds => ds[i]?.map fun x => D.tup [.int (i : Nat), x]) = some none := h
    cases q : lstAt S n with
    | none => rw [q] at h'; cases h'
    | some ds =>
      rw [q] at h'
      obtain ⟨vs, h1, h2⟩ := ra.seq t' q
      have h3 : (ds[i]?.map fun x => D.tup [.int (i : Nat), x]) = none := Option.some.inj h'
      refine ⟨vs, h1, by rw [h2.length]; exact List.getElem?_eq_none_iff.mp (Option.map_eq_none_iff.mp h3)⟩
  · have h' : (lstAt S n).map (fun ds => ds[i]?.map fun x => D.tup [.int (i : Nat), x]) = some (some d) := h
    cases q : lstAt S n with
    | none => rw [q] at h'; cases h'
    | some ds =>
      rw [q] at h'
      obtain ⟨vs, h1, h2⟩ := ra.seq t' q
      have h3 : (ds[i]?.map fun x => D.tup [.int (i : Nat), x]) = some d := Option.some.inj h'
      cases q2 : ds[i]? with
      | none => rw [q2] at h3; cases h3
      | some y =>
        rw [q2] at h3
        cases h3
        obtain ⟨v, h4, h5⟩ := h2.get q2
        refine ⟨⟨vs, v, h1, h4⟩, fun x H' ⟨T, x', e1, hT, e2, f⟩ => ?_⟩
        have : x' = v := Option.some.inj ((f vs h1).symm.trans h4)
        subst this e1 e2
        exact pair_new ra hT (.int _) h5
end
section
variable {X : Cx} {C : CallSem} {G : Nat → Option D} {W : WX} {a b c e tg : Expr} {A B D' : Xp} {pos : Pos}
theorem di_itr (ha : PE X a (tD X C G W A)) : PI X tg a (tDi X C G W (.itr A)) := by
  refine ⟨fun pins s σ H R' I ⟨m, ρ, S, ra, re, p⟩ => ?_⟩
  have p0 : Post X.kw X.mg (fun c d H' => W c d σ H') (SrcOk X.kw X.mg) m H ((ev C G A ρ S).bind fun x S1 => R.opt (srcOf x S1) S1) R' := p
  cases q : ev C G A ρ S with
  | bad => rw [q] at p0; exact p0.elim
  | exc cc pp SS =>
    rw [q] at p0
    exact (pi_list ha).run pins s σ H R' I ⟨m, ρ, S, ra, re, by rw [q]; exact p0⟩
  | ok d S1 =>
    rw [q] at p0
    have p1 : Post X.kw X.mg (fun c d H' => W c d σ H') (SrcOk X.kw X.mg) m H (R.opt (srcOf d S1) S1) R' := p0
    obtain ⟨src, hsrc, p2⟩ := post_opt p1
    cases d with
    | fl ds =>
      cases hsrc
      refine (pi_list ha).run pins s σ H R' I ⟨m, ρ, S, ra, re, ?_⟩
      rw [q]
      intro m' H' v l ra' rp
      cases rp with
      | fl t hs => exact ⟨_, rfl, ⟨_, .inl (.inr ⟨_, t⟩)⟩, p2 m' H' _ l ra' (src_fl t hs)⟩
    | tup ds =>
      cases hsrc
      refine (pi_tup ha).run pins s σ H R' I ⟨m, ρ, S, ra, re, ?_⟩
      rw [q]
      intro m' H' v l ra' rp
      cases rp with
      | tup t hs => exact ⟨_, rfl, ⟨_, t.t⟩, p2 m' H' _ l ra' (src_tup t hs)⟩
    | loc n =>
      have hsrc' : (lstAt S1 n).map (fun _ => Src.lst n) = some src := hsrc
      cases q2 : lstAt S1 n with
      | none => rw [q2] at hsrc'; cases hsrc'
      | some ds =>
        rw [q2] at hsrc'
        cases hsrc'
        refine (pi_list ha).run pins s σ H R' I ⟨m, ρ, S, ra, re, ?_⟩
        rw [q]
        intro m' H' v l ra' rp
        cases rp with
        | loc t =>
          obtain ⟨vs, h1, h2⟩ := ra'.seq t q2
          exact ⟨_, rfl, ⟨vs, h1⟩, p2 m' H' _ l ra' (src_lst t)⟩
    | str z =>
      cases hsrc
      refine (pi_str ha).run pins s σ H R' I ⟨m, ρ, S, ra, re, ?_⟩
      rw [q]
      intro m' H' v l ra' rp
      cases rp
      exact ⟨z, rfl, p2 m' H' _ l ra' src_str⟩
    | _ => cases hsrc
theorem small_62 {i : Int} (h : small62 i = true) : -(2 ^ 62) ≤ i ∧ i < 2 ^ 62 := by
  obtain ⟨h1, h2⟩ := Bool.and_eq_true_iff.mp h
  exact ⟨of_decide_eq_true h1, of_decide_eq_true h2⟩
theorem di_rng1 {p : Pos} {cb : Bool} (cx : Ctx cb X) (hg : Gl X "range") (ha : PE X a (tD X C G W A)) (hs : starEach [a] X.env = [(false, eval a X.env)] := by rfl) : PI X tg (.Call (.Name "range" p) [a] [] pos) (tDi X C G W (.rng1 A)) :=
  PI_imp (pi_range1 hg (cx.nob "range" (by decide +kernel)) (da_cons ha da_nil hs) hs) fun σ H R' ⟨m, ρ, S, ra, re, p⟩ => by
    refine ⟨m, ρ, S, ra, re, ?_⟩
    have p0 : Post X.kw X.mg (fun c d H' => W c d σ H') (SrcOk X.kw X.mg) m H ((asI (ev C G A ρ S)).bind fun i S1 => if small62 i then .ok (.ds (rangeD 0 i.toNat)) S1 else .bad) R' := p
    show Post X.kw X.mg (fun c d H' => W c d σ H') (Rps X.kw X.mg) m H ((ev C G A ρ S).bind fun x S1 => .ok [x] S1) _
    cases q : ev C G A ρ S with
    | bad => rw [q] at p0; exact p0
    | exc cc pp SS => rw [q] at p0; exact p0
    | ok d S1 =>
      rw [q] at p0
      cases d with
      | int i =>
        have p1 : Post X.kw X.mg (fun c d H' => W c d σ H') (SrcOk X.kw X.mg) m H (if small62 i then .ok (.ds (rangeD 0 i.toNat)) S1 else .bad) R' := p0
        by_cases cc : small62 i = true
        · rw [if_pos cc] at p1
          intro m' H' vs l ra' rp
          obtain ⟨v, rfl, rv⟩ := rps1 rp
          cases rv
          obtain ⟨c1, c2⟩ := small_62 cc
          exact ⟨i, rfl, c1, c2, p1 m' H' _ l ra' src_rng⟩
        · rw [if_neg cc] at p1
          exact p1.elim
      | _ => exact p0.elim
theorem di_zip2 {p tpos : Pos} {elts : List Expr} {kk : Nat} {cb : Bool} (cx : Ctx cb X) (hg : Gl X "zip") (ha : PE X a (tD X C G W A)) (hb : PE X b (tD X C G W B))
    (hs2 : starEach [b] X.env = (false, eval b X.env) :: starEach [] X.env := by rfl)
    (hs : starEach [a, b] X.env = (false, eval a X.env) :: starEach [b] X.env := by rfl) (hpl : (backTo pos (starEach [b] X.env)).any (·.1) = false := by rfl) :
    PI X (.Tuple elts kk tpos) (.Call (.Name "zip" p) [a, b] [] pos) (tDi X C G W (.zip2 A B)) :=
  PI_imp (pi_zipK hg (cx.nob "zip" (by decide +kernel)) (da_cons ha (da_cons hb da_nil hs2) hs) hs hpl) fun σ H R' ⟨m, ρ, S, ra, re, p⟩ => by
    refine ⟨m, ρ, S, ra, re, ?_⟩
    have p0 : Post X.kw X.mg (fun c d H' => W c d σ H') (SrcOk X.kw X.mg) m H ((ev C G A ρ S).bind fun x S1 => (ev C G B ρ S1).bind fun y S2 => match x, y with
      | .loc n, .loc k => match lstAt S2 n, lstAt S2 k with
        | some _, some _ => .ok (.zip n k) S2
        | _, _ => .bad
      | .tup xs, .tup ys => .ok (.ds ((xs.zip ys).map fun p => .tup [p.1, p.2])) S2
      | .fl xs, .fl ys => .ok (.ds ((xs.zip ys).map fun p => .tup [p.1, p.2])) S2
      | .fl xs, .tup ys => .ok (.ds ((xs.zip ys).map fun p => .tup [p.1, p.2])) S2
      | .loc n, .fl ys => match lstAt S2 n with
        | some _ => .ok (.zipF n ys) S2
        | none => .bad
      | _, _ => .bad) R' := p
    show Post X.kw X.mg (fun c d H' => W c d σ H') (Rps X.kw X.mg) m H ((ev C G A ρ S).bind fun x S1 => ((ev C G B ρ S1).bind fun y S2 => .ok [y] S2).bind fun xs S2 => .ok (x :: xs) S2) _
    cases q : ev C G A ρ S with
    | bad => rw [q] at p0; exact p0
    | exc cc pp SS => rw [q] at p0; exact p0
    | ok d S1 =>
      rw [q] at p0
      simp only [R.bind_ok] at p0 ⊢
      cases q1 : ev C G B ρ S1 with
      | bad => rw [q1] at p0; exact p0
      | exc cc pp SS => rw [q1] at p0; exact p0
      | ok d2 S2 =>
        rw [q1] at p0
        simp only [R.bind_ok] at p0 ⊢
        intro m' H' vs l ra' rp
        obtain ⟨v, w, rfl, rv, rw'⟩ := rps2 rp
        cases rv with
        | loc t =>
          rename_i n1 a1 b1
          cases rw' with
          | loc u =>
            rename_i n2 a2 b2
            cases h1 : lstAt S2 n1 with
            | none => simp only [h1] at p0; exact p0.elim
            | some ds =>
              cases h2 : lstAt S2 n2 with
              | none => simp only [h1, h2] at p0; exact p0.elim
              | some es =>
                simp only [h1, h2] at p0
                obtain ⟨vs, g1, _⟩ := ra'.seq t h1
                obtain ⟨ws, g2, _⟩ := ra'.seq u h2
                exact ⟨true, true, _, _, vs, ws, rfl, g1, g2, p0 m' H' _ l ra' (src_zip t u)⟩
          | fl u hs2 =>
            cases h1 : lstAt S2 n1 with
            | none => simp only [h1] at p0; exact p0.elim
            | some ds =>
              simp only [h1] at p0
              obtain ⟨vs, g1, _⟩ := ra'.seq t h1
              exact ⟨true, true, _, _, vs, _, rfl, g1, .inl (.inr ⟨_, u⟩), p0 m' H' _ l ra' (src_zipM t u hs2)⟩
          | _ => exact p0.elim
        | tup t hs =>
          cases rw' with
          | tup u hs2 => exact ⟨false, false, _, _, _, _, rfl, t.t, u.t, p0 m' H' _ l ra' (src_zipT t hs u hs2)⟩
          | _ => exact p0.elim
        | fl t hs =>
          cases rw' with
          | fl u hs2 => exact ⟨true, true, _, _, _, _, rfl, .inl (.inr ⟨_, t⟩), .inl (.inr ⟨_, u⟩), p0 m' H' _ l ra' (src_zipF t hs u hs2)⟩
          | tup u hs2 => exact ⟨true, false, _, _, _, _, rfl, .inl (.inr ⟨_, t⟩), u.t, p0 m' H' _ l ra' (src_zipFT t hs u hs2)⟩
          | _ => exact p0.elim
        | _ => cases rw' <;> exact p0.elim
theorem di_enum {p tpos : Pos} {elts : List Expr} {kk : Nat} {cb : Bool} (cx : Ctx cb X) (hg : Gl X "enumerate") (ha : PE X a (tD X C G W A)) (hs : starEach [a] X.env = [(false, eval a X.env)] := by rfl) :
    PI X (.Tuple elts kk tpos) (.Call (.Name "enumerate" p) [a] [] pos) (tDi X C G W (.enum A)) :=
  PI_imp (pi_enum hg (cx.nob "enumerate" (by decide +kernel)) (da_cons ha da_nil hs) hs) fun σ H R' ⟨m, ρ, S, ra, re, p⟩ => by
    refine ⟨m, ρ, S, ra, re, ?_⟩
    have p0 : Post X.kw X.mg (fun c d H' => W c d σ H') (SrcOk X.kw X.mg) m H ((ev C G A ρ S).bind fun x S1 => match x with
      | .fl ds => .ok (.ds (enumL 0 ds)) S1
      | .loc n => match lstAt S1 n with
        | some _ => .ok (.enum n) S1
        | none => .bad
      | _ => .bad) R' := p
    show Post X.kw X.mg (fun c d H' => W c d σ H') (Rps X.kw X.mg) m H ((ev C G A ρ S).bind fun x S1 => .ok [x] S1) _
    cases q : ev C G A ρ S with
    | bad => rw [q] at p0; exact p0
    | exc cc pp SS => rw [q] at p0; exact p0
    | ok d S1 =>
      rw [q] at p0
      simp only [R.bind_ok] at p0 ⊢
      intro m' H' vs l ra' rp
      obtain ⟨v, rfl, rv⟩ := rps1 rp
      cases rv with
      | loc t =>
        rename_i n1 a1 b1
        cases h1 : lstAt S1 n1 with
        | none => simp only [h1] at p0; exact p0.elim
        | some ds =>
          simp only [h1] at p0
          obtain ⟨vs, g1, _⟩ := ra'.seq t h1
          exact ⟨_, vs, rfl, g1, p0 m' H' _ l ra' (src_enum t)⟩
      | fl t hs => exact ⟨_, _, rfl, .inl (.inr ⟨_, t⟩), p0 m' H' _ l ra' (src_enumF t hs)⟩
      | _ => exact p0.elim
end
end CC
namespace CC
open PySem PySem.Spec PyProof.Rows L2
abbrev W00 : WX := fun _ _ _ _ => False
theorem wipe_wipe (σ : L2.St) (vs : List Nat) : wipe (wipe σ vs) vs = wipe σ vs := by
  suffices h : ∀ (ws : List Nat), (∀ i ∈ ws, i ∈ vs) → wipe (wipe σ ws) vs = wipe σ vs by exact h vs fun _ z => z
  intro ws
  induction ws with
  | nil => intro _; rfl
  | cons w ws ih =>
    intro hw
    show wipe ((wipe σ ws).set w none) vs = _
    rw [wipe_mem (hw w List.mem_cons_self), ih fun i z => hw i (List.mem_cons_of_mem _ z)]
theorem PTs_imp {X : Cx} {e : List Expr} {t t' : TT} (h : PTs X e t) (i : ∀ σ H Q, t' σ H Q → t σ H Q) : PTs X e t' := ⟨fun pins s σ H Q I q => h.run pins s σ H Q I (i σ H Q q)⟩
theorem Ctx.blk {X : Cx} {cb : Bool} (c : Ctx cb X) (s : Shared) (H : Hp) (scope : Scope) (cenv : PySem.Env) (fp : List Addr) : Ctx cb (X.blk s H scope cenv fp) := ⟨c.calm, c.hu, c.nd, c.g, c.nob, c.wm⟩
section
variable {X : Cx} {C : CallSem} {G : Nat → Option D} {W : WX} {a b c e : Expr} {A B D' : Xp} {pos : Pos}
theorem dts_nil : PTs X [] (tDT X C G W (.bl true)) := PTs_imp pts_nil fun σ H Q ⟨m, ρ, S, ra, re, p⟩ => Post.now (v := true) p ra rfl
theorem dts_one (h : PT X c (tDT X C G W A)) : PTs X [c] (tDT X C G W A) := pts_one h
theorem i_lc {it tg elt cond : Xp} {vs : List Nat} {σ : L2.St} {H : Hp} {Q : VK} (hsl : ∀ i ∈ tslots tg, i ∈ vs) (h : tD X C G W (.lc it tg elt cond vs) σ H Q) :
    tLc (tDi X C G W it) (gT X.kw X.mg tg) (tDT X C G W00 cond) (tD X C G W00 elt) vs σ H Q := by
  obtain ⟨m, ρ, S, ra, re, p⟩ := h
  refine ⟨m, ρ, S, ra, re, Post.imp (Post.bind p) ?_⟩
  rintro J H1 ⟨m1, src, S1, l1, ra1, sok, p1⟩ Dl hD
  let Fin : R (List D) → Prop := fun r => Post X.kw X.mg (fun c d H' => W c d σ H') (Rp X.kw X.mg) m1 H1 (r.bind fun ds S2 => mk (.lst ds) S2) Q
  let L := lcl src tg (fun ρ1 S2 => asT (ev C G cond ρ1 S2)) (fun ρ1 S2 => ev C G elt ρ1 S2) (wipeE ρ vs)
  refine ⟨fun i n H' => ∃ m' S' acc avs, Le m1 m' H1 H' ∧ RelA X.kw X.mg m' H' S' ∧ Rps X.kw X.mg m' H' acc avs ∧ H' Dl = some (.lst avs) ∧ (Dl, false) ∉ m' ∧ Fin (L n i acc S'),
    ⟨src.size S1 + 1, m1, S1, [], [], Le.new hD, ra1.new hD, .nil, upd_same, ra1.notin hD, p1⟩, ?_⟩
  rintro i n H' ⟨m', S', acc, avs, l', ra', hs', hDl, hni, fin⟩
  cases n with
  | zero => exact fin.elim
  | succ n =>
    have fin' : Fin (match src.get i S' with
      | none => .bad
      | some none => .ok acc S'
      | some (some d) => match bindT tg d (wipeE ρ vs) with
        | none => .bad
        | some ρ1 => match asT (ev C G cond ρ1 S') with
          | .ok true S1 => match ev C G elt ρ1 S1 with
            | .ok y S2 => if acc.length < sizeLine then L n (i + 1) (acc ++ [y]) S2 else .bad
            | _ => .bad
          | .ok false S1 => L n (i + 1) acc S1
          | _ => .bad) := fin
    obtain ⟨stop, go⟩ := sok m' H' S' i l'.lt ra'
    cases hg : src.get i S' with
    | none => simp only [hg] at fin'; exact fin'.elim
    | some o =>
      cases o with
      | none =>
        simp only [hg] at fin'
        refine .inl ⟨stop hg, ?_⟩
        have f2 : Post X.kw X.mg (fun c d H' => W c d σ H') (Rp X.kw X.mg) m1 H1 (mk (.lst acc) S') Q := fin'
        refine f2 (m' ++ [(Dl, false)]) H' (.ref Dl) ⟨fun n a h => ?_, l'.tup, l'.fz, l'.ex, fun a u h hn => ?_⟩ (ra'.adopt hDl hni hs') (.loc (ra'.at_new Dl))
        · have := l'.pre n a h
          rw [List.getElem?_append_left (List.getElem?_eq_some_iff.mp this).1]
          exact this
        · obtain ⟨h1, h2⟩ := l'.frame a u h hn
          refine ⟨h1, fun z => ?_⟩
          rcases List.mem_append.mp z with z | z
          · exact h2 z
          · exact ne_of_none h hD (by simpa using z)
      | some d =>
        simp only [hg] at fin'
        obtain ⟨g1, g2⟩ := go d hg
        refine .inr ⟨g1, _, fun H'' z => ⟨n, Nat.lt_succ_self n, z⟩, fun x H'' hy => ?_⟩
        obtain ⟨ly, ray, rpx⟩ := g2 x H'' hy
        cases hb : bindT tg d (wipeE ρ vs) with
        | none => simp only [hb] at fin'; exact fin'.elim
        | some ρ1 =>
          simp only [hb] at fin'
          have re0 : RelE X.kw X.mg m' H'' (wipe σ vs) (wipeE ρ vs) := (((re.mono l1).mono l').mono ly).wipe vs
          refine ⟨m', wipeE ρ vs, S', d, ρ1, ray, re0, rpx, hb, fun σ2 re2 w2 => ⟨(w2 vs hsl).trans (wipe_wipe σ vs), m', ρ1, S', ray, re2, ?_⟩⟩
          obtain ⟨hDl2, hni2⟩ := ly.frame Dl _ hDl hni
          cases hc : asT (ev C G cond ρ1 S') with
          | bad => simp only [hc] at fin'; exact fin'.elim
          | exc _ _ _ => simp only [hc] at fin'; exact fin'.elim
          | ok k S2 =>
            show Post X.kw X.mg (fun _ _ _ => False) relEq m' H'' (asT (ev C G cond ρ1 S')) _
            rw [hc]
            intro m3 H3 kk l3 ra3 hk
            have hk' : k = kk := hk
            subst hk'
            obtain ⟨hDl3, hni3⟩ := l3.frame Dl _ hDl2 hni2
            cases k with
            | false =>
              simp only [hc] at fin'
              rw [if_neg (by decide)]
              exact ⟨m3, S2, acc, avs, (l'.trans ly).trans l3, ra3, (hs'.mono ly).mono l3, hDl3, hni3, fin'⟩
            | true =>
              simp only [hc] at fin'
              rw [if_pos rfl]
              refine ⟨m3, ρ1, S2, ra3, re2.mono l3, ?_⟩
              show Post X.kw X.mg (fun _ _ _ => False) (Rp X.kw X.mg) m3 H3 (ev C G elt ρ1 S2) _
              cases he : ev C G elt ρ1 S2 with
              | bad => simp only [he] at fin'; exact fin'.elim
              | exc _ _ _ => simp only [he] at fin'; exact fin'.elim
              | ok y S3 =>
                simp only [he] at fin'
                by_cases cc : acc.length < sizeLine
                · rw [if_pos cc] at fin'
                  intro m4 H4 v l4 ra4 rv
                  obtain ⟨hDl4, hni4⟩ := l4.frame Dl _ hDl3 hni3
                  refine ⟨avs, hDl4, by rw [hs'.length]; exact cc, m4, S3, acc ++ [y], avs ++ [v], (((l'.trans ly).trans l3).trans l4).scratch hD, ra4.scratch hDl4 hni4, ?_, upd_same, hni4, fin'⟩
                  exact ((((hs'.mono ly).mono l3).mono l4).append (.cons rv .nil)).mov (Lt.scratch hDl4)
                · rw [if_neg cc] at fin'
                  exact fin'.elim
theorem de_lc {elt tg iter : Expr} {ifs : List Expr} {scope : Scope} {own : List (Str × Nat)} {it tx ex cd : Xp} (cx : Ctx true X) (hi : PI X tg iter (tDi X C G W it)) (ok : BlkOk X.N X.env.scope scope own)
    (hg : ∀ (s : Shared) (H : Hp) (L : Addr) (cl : List (Str × Addr)) (fp : List Addr), PG (X.blk s H scope (compEnvC scope cl L X.env) fp) tg (gT X.kw X.mg tx))
    (ht : ∀ (s : Shared) (H : Hp) (L : Addr) (cl : List (Str × Addr)) (fp : List Addr), PTs (X.blk s H scope (compEnvC scope cl L X.env) fp) ifs (tDT X C G W00 cd))
    (he : ∀ (s : Shared) (H : Hp) (L : Addr) (cl : List (Str × Addr)) (fp : List Addr), PE (X.blk s H scope (compEnvC scope cl L X.env) fp) elt (tD X C G W00 ex))
    (hsl : ∀ i ∈ tslots tx, i ∈ own.map (·.2)) (hs : ∀ x, foldedSetIterable iter X.env x = pure x := by intro _; rfl) :
    PE X (.ListComp elt [⟨tg, iter, ifs, 0⟩] scope pos) (tD X C G W (.lc it tx ex cd (own.map (·.2)))) :=
  PE_imp (pe_lc (cx.calm rfl) cx.nd hi ok hg ht he hs) fun σ H Q h => i_lc hsl h
end
structure FnG (P : Program) (w : World) (K : PySem.W.Frag) (mg : Str → Option Value) (base : Heap) (k : Nat) (f : Addr) (fd : FuncData) (ps : List Str) (cs : List D → Sto → R D) : Prop where
  len : ∀ ds S, cs ds S ≠ .bad → ds.length = ps.length
  run : ∀ (A : Around) (outer : List PySem.Env) (s : Shared) (H : Hp) (args : Args) (us : List Value) (vs : List V) (m : Mp) (ds : List D) (S : Sto) (Q : VK) (E : XK), A.guards = some [] → Room k A → Env0 P w K mg base A outer s H →
    BindsTo s fd args (ps.zip us) → Vals vs us → RelA ⟨K, w, none⟩ mg m H S → Rps ⟨K, w, none⟩ mg m H ds vs → Post ⟨K, w, none⟩ mg E (Rp ⟨K, w, none⟩ mg) m H (cs ds S) Q → codeAny (model P w) A (.call (.ref f) args) (CR (L2N.CX P w) outer P w H s Q E) s
theorem post_nb {K : KW} {mg : Str → Option Value} {W : XK} {α β : Type} {rel : Mp → Hp → α → β → Prop} {m : Mp} {H : Hp} {r : R α} {Q : β → Hp → Prop} (h : Post K mg W rel m H r Q) : r ≠ .bad := by
  intro z
  rw [z] at h
  exact h
theorem FnG.mono {P : Program} {w : World} {K : PySem.W.Frag} {mg : Str → Option Value} {base : Heap} {j k : Nat} {f : Addr} {fd : FuncData} {ps : List Str} {cs : List D → Sto → R D} (F : FnG P w K mg base j f fd ps cs) (h : j ≤ k) : FnG P w K mg base k f fd ps cs :=
  ⟨F.len, fun A outer s H args us vs m ds S Q E g hr => F.run A outer s H args us vs m ds S Q E g (hr.mono h)⟩
theorem fnG_of {P : Program} {w : World} {K : PySem.W.Frag} {mg : Str → Option Value} {base : Heap} {k : Nat} {f : Addr} {x qual : Str} {st : Stmt} {fd : FuncData} {N ps : List Str} {cs : List D → Sto → R D} (F : Fun K x qual st f fd) (sc : FnScope N ps (defScope st))
    (len : ∀ ds S, cs ds S ≠ .bad → ds.length = ps.length)
    (hb : ∀ (cdv : Value) (A : Around) (outer : List PySem.Env) (s : Shared) (H : Hp) (vs : List V) (m : Mp) (ds : List D) (S : Sto) (Q : VK) (E : XK), A.guards = some [] → Room k (A.deeper (envOfC qual (defScope st) s.heap.objs.size f cdv)) →
      RelA ⟨K, w, none⟩ mg m H S → Rps ⟨K, w, none⟩ mg m H ds vs → Post ⟨K, w, none⟩ mg E (Rp ⟨K, w, none⟩ mg) m H (cs ds S) Q →
      ∃ t, PSs (cxOf (L2N.CX P w) P w K mg base N qual (defScope st) f cdv A outer s H E) (defBody st) t ∧ t { nx := fun _ H' => Q .non H', rt := Q } (start N vs) H) : FnG P w K mg base (k + 1) f fd ps cs := by
  obtain ⟨oc, od, kV, doc, pm, an, cdv, ct, osl, rfl, lk, hcd⟩ := F.ex
  refine ⟨len, ?_⟩
  intro A outer s H args us vs m ds S Q E hgd room env hbind rv ra rs post
  have kin : K.In s.heap := env.mod.kin.keeps fun b o z => (env.bs b o z).1
  have nolim : s.heap.NoLimit := env.mod.nolimit.keeps fun b o z => (env.bs b o z).1
  have kinds : ∀ y ∈ ps.zip us, (defScope st).names.lookup y.1 = some .local ∨ ((defScope st).names.lookup y.1 = some .cell ∧ ((cellsFrom (s.heap.objs.size + 1) (defScope st).names []).lookup y.1).isSome = true) := by
    rintro ⟨n, v⟩ hy
    rcases sc.par n (List.of_mem_zip hy).1 with q | q
    · exact .inl q
    · exact .inr ⟨q, PySem.W.cellsFrom_some _ _ _ (.inl q)⟩
  have vlen : vs.length = ps.length := by rw [rs.length]; exact len ds S (post_nb post)
  refine codeAny_call_function room.depth (kin _ _ lk) rfl sc.co sc.gen rfl (PySem.W.codeRec_of kin hcd) (hbind _ _ _ _ ?_)
  refine wpAny_newFunctionEnv_cells sc.kind kinds ?_
  intro env1 henv s1 x1
  subst henv
  refine ⟨nolim.keeps x1.toInCall.keep, codeAny_func ?_⟩
  obtain ⟨t, ht, hq⟩ := hb cdv A outer s H vs m ds S Q E hgd (room.deeper _) ra rs post
  have inv : L2.Inv (cxOf (L2N.CX P w) P w K mg base N qual (defScope st) f cdv A outer s H E) [] (start N vs) H s1 := inv_start sc room.hd env vlen rv x1
  refine wpAny_mono (ht.run [] s1 (start N vs) H _ inv hq) ?_ (fun e s' z => z)
  intro fl s' hs
  have done : ∀ {σ' : L2.St} {H' : Hp} {v : V} {u : Value}, L2.Inv (cxOf (L2N.CX P w) P w K mg base N qual (defScope st) f cdv A outer s H E) [] σ' H' s' → RelV v u → Q v H' → CE outer P w H s Q u s' :=
    fun {σ' H' v u} J r1 q1 => ⟨v, H', J.os, J.bare, J.base, J.hok, r1, q1⟩
  cases fl with
  | next =>
    obtain ⟨_, _, J, q⟩ := hs
    exact done (v := V.non) (u := Value.none) J rfl q
  | ret u =>
    obtain ⟨_, _, _, J, r1, q⟩ := hs
    exact done J r1 q
  | cont => obtain ⟨_, _, _, q⟩ := hs; exact False.elim q
  | brk => obtain ⟨_, _, _, q⟩ := hs; exact False.elim q
theorem kw_calm {X : Cx} {k : Nat} (hr : Room k X.A) : X.kw = ⟨X.K, X.w, none⟩ := by
  show (⟨X.K, X.w, hxA X.A⟩ : KW) = _
  rw [hxA_none hr.hd]
def KB (fd : FuncData) (ps : List Str) (q : Nat × List Str × List Nat) : Prop := ∀ (s : Shared) (us ws zs : List Value), us.length = q.1 → ws.length = q.2.1.length → permL (us ++ ws) q.2.2 = some zs → BindsTo s fd ⟨us, q.2.1.zip ws⟩ (ps.zip zs)
structure FnAt (P : Program) (w : World) (K : PySem.W.Frag) (mg : Str → Option Value) (base : Heap) (k : Nat) (x : Str) (np : Nat) (kw : List (Nat × List Str × List Nat)) (cs : List D → Sto → R D) : Prop where
  ex : ∃ (f : Addr) (fd : FuncData) (ps : List Str), mg x = some (.ref f) ∧ PySem.W.keepIn K (.ref f) = true ∧ ps.length = np ∧ Binds K fd ps [] ∧ (∀ q ∈ kw, KB fd ps q) ∧ FnG P w K mg base k f fd ps cs
structure Calls (P : Program) (w : World) (K : PySem.W.Frag) (mg : Str → Option Value) (base : Heap) (k : Nat) (nm : List Str) (kwt : Nat → List (Nat × List Str × List Nat)) (T : Nat → Option Fd) (C : CallSem) : Prop where
  fn : ∀ i x fd, nm[i]? = some x → T i = some fd → FnAt P w K mg base k x fd.np (kwt i) (C i)
section
variable {X : Cx} {C : CallSem} {G : Nat → Option D} {W : WX} {a b c e : Expr} {A B D' : Xp} {pos : Pos} {k : Nat}
theorem run_g {f : Addr} {fd : FuncData} {ps : List Str} {cs : List D → Sto → R D} {pins : List (Addr × Obj)} {σ : L2.St} {H : Hp} {s : Shared} {Q : VK} {us : List Value} {vs : List V} {m : Mp} {ds : List D} {S : Sto}
    (F : FnG X.prog X.w X.K X.mg X.base k f fd ps cs) {cb : Bool} (cx : Ctx cb X) (hr : Room k X.A) (hb : Binds X.K fd ps []) (tk : L2N.Takes X W) (I : L2.Inv X pins σ H s) (r : Vals vs us) (ra : RelA X.kw X.mg m H S) (rs : Rps X.kw X.mg m H ds vs)
    (h : Post X.kw X.mg (fun c d H' => W c d σ H') (Rp X.kw X.mg) m H (cs ds S) Q) : wpAny (model X.prog X.w) X.A (call (.ref f) us) (EP X pins σ Q) X.xe s := by
  rw [kw_calm hr] at ra rs h
  have hl : us.length = ps.length := by rw [← r.length, rs.length]; exact F.len ds S (post_nb h)
  have hbs : BindsTo s fd ⟨us, []⟩ (ps.zip us) := by
    have z := hb s us I.kIn (by simpa using hl)
    rw [List.append_nil] at z
    exact z
  refine wpAny_call (codeAny_mono (F.run X.A X.stack s H ⟨us, []⟩ us vs m ds S Q _ cx.g hr I.env0 hbs r ra rs h) ?_)
  intro res s' hq
  cases res with
  | error er => exact L2N.passAt tk σ pins H s er s' I hq
  | ok fl =>
    cases fl with
    | ret u => exact I.after hq
    | next => exact False.elim hq
    | brk => exact False.elim hq
    | cont => exact False.elim hq
theorem de_call {i : Nat} {x : Str} {fd : Fd} {nm : List Str} {kwt : Nat → List (Nat × List Str × List Nat)} {T : Nat → Option Fd} {p : Pos} {es : List Expr} (cc : Calls X.prog X.w X.K X.mg X.base k nm kwt T C) (hx : nm[i]? = some x) (hT : T i = some fd) {cb : Bool} (cx : Ctx cb X) (hr : Room k X.A) (tk : L2N.Takes X W) (hg : Gl X x) (ha : PA X (e :: es) (tDs X C G W A))
    (hdb : (x == ("__debug__" : Str)) = false := by decide) (he : starEach (e :: es) X.env = (false, eval e X.env) :: starEach es X.env := by rfl) (hpl : (backTo pos (starEach es X.env)).any (·.1) = false := by rfl) :
    PE X (.Call (.Name x p) (e :: es) [] pos) (tD X C G W (.call i A)) := by
  obtain ⟨f, fd, ps, hm, hk, _, hb, _, F⟩ := (cc.fn i x fd hx hT).ex
  refine ⟨fun pins s σ H Q I ⟨m, ρ, S, ra, re, q⟩ => ?_⟩
  refine wpAny_Call_Name_kw (ld_glob I hg hm ?_ hdb)
  refine PySem.W.callWith_K (h₀ := X.base) I.ok.mod.kin hk (thn (ha.run pos pins s σ H _ I ⟨m, ρ, S, ra, re, Post.bind q⟩) fun us s1 hz => ?_) he hpl
  obtain ⟨vs, H1, I1, r, m1, ds, S1, l1, ra1, rs, q1⟩ := hz
  exact ⟨I1.kIn, run_g F cx hr hb tk I1 r ra1 rs q1⟩
theorem rps_perm {K : KW} {mg : Str → Option Value} {m : Mp} {H : Hp} {ds : List D} {vs : List V} (h : Rps K mg m H ds vs) : ∀ {perm : List Nat} {es : List D}, permL ds perm = some es → ∃ ws, permL vs perm = some ws ∧ Rps K mg m H es ws
  | [], es, e => by
    cases e
    exact ⟨[], rfl, .nil⟩
  | p :: ps, es, e => by
    have e' : ((ds[p]?).bind fun v => (permL ds ps).map (v :: ·)) = some es := e
    cases q : ds[p]? with
    | none => rw [q] at e'; cases e'
    | some d =>
      rw [q] at e'
      cases q2 : permL ds ps with
      | none => rw [q2] at e'; cases e'
      | some r =>
        rw [q2] at e'
        cases e'
        obtain ⟨v, h1, h2⟩ := h.get q
        obtain ⟨ws, h3, h4⟩ := rps_perm h q2
        refine ⟨v :: ws, ?_, .cons h2 h4⟩
        show ((vs[p]?).bind fun v => (permL vs ps).map (v :: ·)) = _
        rw [h1, h3]
        rfl
theorem vals_perm {vs : List V} {us : List Value} (h : Vals vs us) : ∀ {perm : List Nat} {ws : List V}, permL vs perm = some ws → ∃ zs, permL us perm = some zs ∧ Vals ws zs
  | [], es, e => by
    cases e
    exact ⟨[], rfl, .nil⟩
  | p :: ps, es, e => by
    have e' : ((vs[p]?).bind fun v => (permL vs ps).map (v :: ·)) = some es := e
    cases q : vs[p]? with
    | none => rw [q] at e'; cases e'
    | some d =>
      rw [q] at e'
      cases q2 : permL vs ps with
      | none => rw [q2] at e'; cases e'
      | some r =>
        rw [q2] at e'
        cases e'
        obtain ⟨v, h1, h2⟩ := Vals.get h q
        obtain ⟨ws, h3, h4⟩ := vals_perm h q2
        refine ⟨v :: ws, ?_, .cons h2 h4⟩
        show ((us[p]?).bind fun v => (permL us ps).map (v :: ·)) = _
        rw [h1, h3]
        rfl
theorem evs_len {C : CallSem} {G : Nat → Option D} : ∀ {A : Xp} {ρ : Env} {S S' : Sto} {ds : List D}, evs C G A ρ S = .ok ds S' → ds.length = lenX A
  | .nil, ρ, S, S', ds, h => by cases h; rfl
  | .cons a b, ρ, S, S', ds, h => by
    have h' : ((ev C G a ρ S).bind fun x S1 => (evs C G b ρ S1).bind fun xs S2 => R.ok (x :: xs) S2) = .ok ds S' := h
    cases q : ev C G a ρ S with
    | bad => rw [q] at h'; cases h'
    | exc _ _ _ => rw [q] at h'; cases h'
    | ok x S1 =>
      rw [q] at h'
      simp only [R.bind_ok] at h'
      cases q2 : evs C G b ρ S1 with
      | bad => rw [q2] at h'; cases h'
      | exc _ _ _ => rw [q2] at h'; cases h'
      | ok xs S2 =>
        rw [q2] at h'
        cases h'
        show xs.length + 1 = lenX b + 1
        rw [evs_len q2]
  | .var _, _, _, _, _, h => by cases h
  | .glo _, _, _, _, _, h => by cases h
  | .non, _, _, _, _, h => by cases h
  | .bl _, _, _, _, _, h => by cases h
  | .int _, _, _, _, _, h => by cases h
  | .str _, _, _, _, _, h => by cases h
  | .tyc _, _, _, _, _, h => by cases h
  | .bin _ _ _, _, _, _, _, h => by cases h
  | .neg _, _, _, _, _, h => by cases h
  | .nt _, _, _, _, _, h => by cases h
  | .and _ _, _, _, _, _, h => by cases h
  | .or _ _, _, _, _, _, h => by cases h
  | .cmp _ _ _, _, _, _, _, h => by cases h
  | .cmp2 _ _ _ _ _, _, _, _, _, h => by cases h
  | .ife _ _ _, _, _, _, _, h => by cases h
  | .call _ _, _, _, _, _, h => by cases h
  | .callk _ _ _ _, _, _, _, _, h => by cases h
  | .bi _ _, _, _, _, _, h => by cases h
  | .mt _ _ _, _, _, _, _, h => by cases h
  | .ix _ _, _, _, _, _, h => by cases h
  | .gdx _ _, _, _, _, _, h => by cases h
  | .dnew, _, _, _, _, h => by cases h
  | .dget _ _ _, _, _, _, _, h => by cases h
  | .dsetd _ _ _, _, _, _, _, h => by cases h
  | .sumv _, _, _, _, _, h => by cases h
  | .lset _, _, _, _, _, h => by cases h
  | .lix _ _, _, _, _, _, h => by cases h
  | .dit _, _, _, _, _, h => by cases h
  | .dks _, _, _, _, _, h => by cases h
  | .dvs _, _, _, _, _, h => by cases h
  | .sl _ _ _, _, _, _, _, h => by cases h
  | .rev _, _, _, _, _, h => by cases h
  | .tup _, _, _, _, _, h => by cases h
  | .lst _, _, _, _, _, h => by cases h
  | .lc _ _ _ _ _, _, _, _, _, h => by cases h
  | .itr _, _, _, _, _, h => by cases h
  | .rng1 _, _, _, _, _, h => by cases h
  | .rng2 _ _, _, _, _, _, h => by cases h
  | .zip2 _ _, _, _, _, _, h => by cases h
  | .enum _, _, _, _, _, h => by cases h
theorem run_gk {f : Addr} {fd : FuncData} {ps : List Str} {cs : List D → Sto → R D} {pins : List (Addr × Obj)} {σ : L2.St} {H : Hp} {s : Shared} {Q : VK} {us ws zs : List Value} {vs : List V} {m : Mp} {ds : List D} {S : Sto} {q : Nat × List Str × List Nat}
    (F : FnG X.prog X.w X.K X.mg X.base k f fd ps cs) {cb : Bool} (cx : Ctx cb X) (hr : Room k X.A) (hb : KB fd ps q) (tk : L2N.Takes X W) (I : L2.Inv X pins σ H s) (h1 : us.length = q.1) (h2 : ws.length = q.2.1.length) (h3 : permL (us ++ ws) q.2.2 = some zs)
    (r : Vals vs zs) (ra : RelA X.kw X.mg m H S) (rs : Rps X.kw X.mg m H ds vs)
    (h : Post X.kw X.mg (fun c d H' => W c d σ H') (Rp X.kw X.mg) m H (cs ds S) Q) : wpAny (model X.prog X.w) X.A (call (.ref f) us (q.2.1.zip ws)) (EP X pins σ Q) X.xe s := by
  rw [kw_calm hr] at ra rs h
  refine wpAny_call (codeAny_mono (F.run X.A X.stack s H ⟨us, q.2.1.zip ws⟩ zs vs m ds S Q _ cx.g hr I.env0 (hb s us ws zs h1 h2 h3) r ra rs h) ?_)
  intro res s' hq
  cases res with
  | error er => exact L2N.passAt tk σ pins H s er s' I hq
  | ok fl =>
    cases fl with
    | ret u => exact I.after hq
    | next => exact False.elim hq
    | brk => exact False.elim hq
    | cont => exact False.elim hq
theorem i_callk {i : Nat} {perm : List Nat} {σ : L2.St} {H : Hp} {Q : VK} (h : tD X C G W (.callk i A B perm) σ H Q) :
    tDs X C G W A σ H fun vs H1 => tDs X C G W B σ H1 fun ws H2 => ∃ m ds es fs S, vs.length = lenX A ∧ ws.length = lenX B ∧ RelA X.kw X.mg m H2 S ∧ Rps X.kw X.mg m H2 ds vs ∧ Rps X.kw X.mg m H2 es ws ∧ permL (ds ++ es) perm = some fs ∧
      Post X.kw X.mg (fun c d H' => W c d σ H') (Rp X.kw X.mg) m H2 (C i fs S) Q := by
  obtain ⟨m, ρ, S, ra, re, p⟩ := h
  refine ⟨m, ρ, S, ra, re, ?_⟩
  have p0 : Post X.kw X.mg (fun c d H' => W c d σ H') (Rp X.kw X.mg) m H ((evs C G A ρ S).bind fun xs S1 => (evs C G B ρ S1).bind fun ys S2 => match permL (xs ++ ys) perm with
    | some zs => C i zs S2
    | none => .bad) Q := p
  cases q : evs C G A ρ S with
  | bad => rw [q] at p0; exact p0.elim
  | exc c pp S1 => rw [q] at p0; exact p0
  | ok ds S1 =>
    rw [q] at p0
    simp only [R.bind_ok] at p0
    intro m1 H1 vs l1 ra1 r1
    refine ⟨m1, ρ, S1, ra1, re.mono l1, ?_⟩
    have p1 := Post.move l1 p0
    cases q2 : evs C G B ρ S1 with
    | bad => rw [q2] at p1; exact p1.elim
    | exc c pp S2 => rw [q2] at p1; exact p1
    | ok es S2 =>
      rw [q2] at p1
      simp only [R.bind_ok] at p1
      intro m2 H2 ws l2 ra2 r2
      cases q3 : permL (ds ++ es) perm with
      | none => simp only [q3] at p1; exact p1.elim
      | some fs =>
        simp only [q3] at p1
        exact ⟨m2, ds, es, fs, S2, by rw [r1.length, evs_len q], by rw [r2.length, evs_len q2], ra2, r1.mono l2, r2, q3, Post.move l2 p1⟩
theorem de_callk0 {i j : Nat} {x : Str} {fd : Fd} {nm : List Str} {kwt : Nat → List (Nat × List Str × List Nat)} {T : Nat → Option Fd} {p : Pos} {kws : List Keyword} {q : Nat × List Str × List Nat} (cc : Calls X.prog X.w X.K X.mg X.base k nm kwt T C) (hq : (kwt i)[j]? = some q)
    (hx : nm[i]? = some x) (hT : T i = some fd) {cb : Bool} (cx : Ctx cb X) (hr : Room k X.A) (tk : L2N.Takes X W) (hg : Gl X x) (hkw : PK X kws (tDs X C G W B)) (h1 : q.1 = 0 := by rfl) (h2 : lenX B = q.2.1.length := by rfl)
    (hall : (backToKw pos (keywordEach kws X.env)).all (·.1.isSome) = true := by rfl) (hks : (backToKw pos (keywordEach kws X.env)).filterMap (·.1) = q.2.1 := by rfl)
    (hdb : (x == ("__debug__" : Str)) = false := by decide) (hpl : ((backTo pos (starEach [] X.env)).any (·.1) || (backToKw pos (keywordEach kws X.env)).any (·.1.isNone)) = false := by rfl) :
    PE X (.Call (.Name x p) [] kws pos) (tD X C G W (.callk i .nil B q.2.2)) := by
  obtain ⟨f, fd, ps, hm, hk, _, hb, hkb, F⟩ := (cc.fn i x fd hx hT).ex
  refine ⟨fun pins s σ H Q I h => ?_⟩
  refine wpAny_Call_Name_kw (ld_glob I hg hm ?_ hdb)
  obtain ⟨m0, ρ0, S0, ra0, re0, p0⟩ := i_callk h
  have q1 := Post.now (v := []) (show Post X.kw X.mg (fun c d H' => W c d σ H') (Rps X.kw X.mg) m0 H (.ok [] S0) _ from p0) ra0 .nil
  refine PySem.W.callWith_KW0 (h₀ := X.base) I.ok.mod.kin hk hall (thn (hkw.run pos pins s σ H _ I q1) fun ws s2 ⟨zs, H2, I2, rz, m, ds, es', fs, S, e1, e2, ra, r1, r2, hp, post⟩ => ⟨I2.kIn, ?_⟩) hpl
  rw [hks]
  obtain ⟨ys, hy, ry⟩ := rps_perm (r1.append r2) hp
  obtain ⟨xs, hxs, rx⟩ := vals_perm (Vals.append (.nil : Vals [] []) rz) hy
  exact run_gk (us := []) F cx hr (hkb q (List.mem_of_getElem? hq)) tk I2 h1.symm (by rw [← rz.length, e2, h2]) hxs rx ra ry post
def PostS (K : KW) (mg : Str → Option Value) (W : WX) (m : Mp) (H : Hp) (r : Rs) (D' : Ends) : Prop := match r with
  | .nx ρ S => ∀ m' H' σ, Le m m' H H' → RelA K mg m' H' S → RelE K mg m' H' σ ρ → D'.nx σ H'
  | .bk ρ S => ∀ m' H' σ, Le m m' H H' → RelA K mg m' H' S → RelE K mg m' H' σ ρ → D'.bk σ H'
  | .ct ρ S => ∀ m' H' σ, Le m m' H H' → RelA K mg m' H' S → RelE K mg m' H' σ ρ → D'.ct σ H'
  | .rt d S => ∀ m' H' v, Le m m' H H' → RelA K mg m' H' S → Rp K mg m' H' d v → D'.rt v H'
  | .exc c p ρ S => ∀ m' H' σ cls dd, Le m m' H H' → RelA K mg m' H' S → RelE K mg m' H' σ ρ → RpX K mg m' H' c p cls dd → W cls dd σ H'
  | .bad => False
theorem PostS.move {K : KW} {mg : Str → Option Value} {W : WX} {m m1 : Mp} {H H1 : Hp} {r : Rs} {D' : Ends} (l : Le m m1 H H1) (h : PostS K mg W m H r D') : PostS K mg W m1 H1 r D' := by
  cases r with
  | bad => exact h
  | rt d S => exact fun m' H' v l' => h m' H' v (l.trans l')
  | exc c p ρ S => exact fun m' H' σ cls dd l' => h m' H' σ cls dd (l.trans l')
  | nx ρ S => exact fun m' H' σ l' => h m' H' σ (l.trans l')
  | bk ρ S => exact fun m' H' σ l' => h m' H' σ (l.trans l')
  | ct ρ S => exact fun m' H' σ l' => h m' H' σ (l.trans l')
theorem PostS.ofR {α β : Type} {K : KW} {mg : Str → Option Value} {W : WX} {m : Mp} {H : Hp} {σ : L2.St} {ρ : Env} {r : R α} {f : α → Sto → Rs} {D' : Ends} {rel : Mp → Hp → α → β → Prop} (re : RelE K mg m H σ ρ) (h : PostS K mg W m H (CC.ofR r ρ f) D') :
    Post K mg (fun c d H' => W c d σ H') rel m H r (fun v H1 => ∃ m1 d S1, Le m m1 H H1 ∧ RelA K mg m1 H1 S1 ∧ rel m1 H1 d v ∧ PostS K mg W m1 H1 (f d S1) D') := by
  cases r with
  | bad => exact h
  | exc c p S => exact fun m' H' cls dd l ra rx => h m' H' σ cls dd l ra (re.mono l) rx
  | ok d S => exact fun m' H' v l ra rv => ⟨m', d, S, l, ra, rv, PostS.move l h⟩
def tS (X : Cx) (n : Nat) (C : CallSem) (G : Nat → Option D) (W : WX) (s : Sx) : TS := fun D' σ H => ∃ m ρ S, RelA X.kw X.mg m H S ∧ RelE X.kw X.mg m H σ ρ ∧ PostS X.kw X.mg W m H (run n C G s ρ S) D'
variable {n : Nat}
theorem ds_expr (he : PE X e (tD X C G W A)) (hs : swapsWith e none pos.line X.env = pure false := by rfl) : PS X (.Expr e pos) (tS X n C G W (.ex A)) :=
  PS_imp (ps_expr he hs) fun D' σ H ⟨m, ρ, S, ra, re, p⟩ => ⟨m, ρ, S, ra, re, Post.imp (PostS.ofR re p) fun v H1 ⟨m1, d, S1, l1, ra1, r1, p1⟩ => p1 m1 H1 σ (Le.refl _ _) ra1 (re.mono l1)⟩
theorem ds_ret (he : PE X e (tD X C G W A)) : PS X (.Return (some e) pos) (tS X n C G W (.ret A)) :=
  PS_imp (ps_ret he) fun D' σ H ⟨m, ρ, S, ra, re, p⟩ => ⟨m, ρ, S, ra, re, Post.imp (PostS.ofR re p) fun v H1 ⟨m1, d, S1, l1, ra1, r1, p1⟩ => p1 m1 H1 v (Le.refl _ _) ra1 r1⟩
theorem ds_if {s1 s2 : List Stmt} {A1 A2 : Sx} (hc : PT X c (tDT X C G W A)) (h1 : PSs X s1 (tS X n C G W A1)) (h2 : PSs X s2 (tS X n C G W A2)) : PS X (.If c s1 s2 pos) (tS X n C G W (.iff A A1 A2)) :=
  PS_imp (ps_if hc h1 h2) fun D' σ H ⟨m, ρ, S, ra, re, p⟩ => ⟨m, ρ, S, ra, re, Post.imp (PostS.ofR (rel := relEq) re p) fun k H1 ⟨m1, d, S1, l1, ra1, r1, p1⟩ => by
    have r1' : d = k := r1
    subst r1'
    cases d with
    | true => exact ⟨m1, ρ, S1, ra1, re.mono l1, p1⟩
    | false => exact ⟨m1, ρ, S1, ra1, re.mono l1, p1⟩⟩
theorem dss_nil : PSs X [] (tS X n C G W .nil) := PSs_imp pss_nil fun D' σ H ⟨m, ρ, S, ra, re, p⟩ => p m H σ (Le.refl _ _) ra re
theorem dss_cons {st : Stmt} {r : List Stmt} {A1 A2 : Sx} (h1 : PS X st (tS X n C G W A1)) (h2 : PSs X r (tS X n C G W A2)) : PSs X (st :: r) (tS X n C G W (.cons A1 A2)) :=
  PSs_imp (pss_cons h1 h2) fun D' σ H ⟨m, ρ, S, ra, re, p⟩ => ⟨m, ρ, S, ra, re, by
    have p0 : PostS X.kw X.mg W m H (match run n C G A1 ρ S with
      | .nx ρ1 S1 => run n C G A2 ρ1 S1
      | r => r) D' := p
    cases q : run n C G A1 ρ S with
    | nx ρ1 S1 =>
      rw [q] at p0
      exact fun m' H' σ' l ra' re' => ⟨m', ρ1, S1, ra', re', PostS.move l p0⟩
    | bk ρ1 S1 => rw [q] at p0; exact p0
    | ct ρ1 S1 => rw [q] at p0; exact p0
    | rt d S1 => rw [q] at p0; exact p0
    | exc c pp ρ1 S1 => rw [q] at p0; exact p0
    | bad => rw [q] at p0; exact p0⟩
def gU (X : Cx) (C : CallSem) (G : Nat → Option D) (W : WX) (t : Xp) : TG := fun v σ H Q => ∃ m ρ S d, RelA X.kw X.mg m H S ∧ RelE X.kw X.mg m H σ ρ ∧ Rp X.kw X.mg m H d v ∧ PostS X.kw X.mg W m H (setT C G t d ρ S) { nx := Q, rt := fun _ _ => False }
def notIx : Xp → Bool
  | .ix _ _ => false
  | .sl _ _ _ => false
  | _ => true
theorem setT_bind {t : Xp} {d : D} {ρ : Env} {S : Sto} (h : notIx t = true) : setT C G t d ρ S = match bindT t d ρ with
    | some ρ1 => .nx ρ1 S
    | none => .bad := by
  cases t <;> first | rfl | cases h
theorem dgu_bind {tg : Expr} {t : Xp} (h : PG X tg (gT X.kw X.mg t)) (hn : notIx t = true := by rfl) : PG X tg (gU X C G W t) :=
  PG_imp h fun v σ H Q ⟨m, ρ, S, d, ra, re, r, p⟩ => by
    rw [setT_bind hn] at p
    cases q : bindT t d ρ with
    | none => rw [q] at p; exact p.elim
    | some ρ1 =>
      rw [q] at p
      exact ⟨m, ρ, S, d, ρ1, ra, re, r, q, fun σ' re' _ => p m H σ' (Le.refl _ _) ra re'⟩
theorem dgu_ix {o i : Expr} {cb : Bool} (cx : Ctx cb X) (ho : PE X o (tD X C G W A)) (hi : PE X i (tD X C G W B))
    (ha : ∀ v, assign (.Subscript o i pos) X.env v = (do
      let ov ← holding [v] (eval o X.env)
      let iv ← holding [v, ov] (eval i X.env)
      standAt pos
      holding [v, ov, iv] (setItem ov iv v)
      release [v, ov, iv] []) := by intro _; rfl) : PG X (.Subscript o i pos) (gU X C G W (.ix A B)) :=
  PG_imp (pg_sub ho hi (set_any cx) ha) fun v σ H Q ⟨m, ρ, S, d, ra, re, r, p⟩ => by
    have p0 : PostS X.kw X.mg W m H (CC.ofR (ev C G A ρ S) ρ fun x S1 => CC.ofR (ev C G B ρ S1) ρ fun y S2 => match setIx x y d S2 with
      | some S3 => .nx ρ S3
      | none => .bad) { nx := Q, rt := fun _ _ => False } := p
    refine ⟨m, ρ, S, ra, re, Post.imp (PostS.ofR re p0) fun x H1 ⟨m1, d1, S1, l1, ra1, r1, p1⟩ => ?_⟩
    refine ⟨m1, ρ, S1, ra1, re.mono l1, Post.imp (PostS.ofR (re.mono l1) p1) fun y H2 ⟨m2, d2, S2, l2, ra2, r2, p2⟩ => ?_⟩
    cases q : setIx d1 d2 d S2 with
    | none => simp only [q] at p2; exact p2.elim
    | some S3 =>
      simp only [q] at p2
      exact ⟨m2, S2, d1, d2, d, S3, ra2, r1.mono l2, r2, (r.mono l1).mono l2, q, fun H' l ra' => p2 m2 H' σ l ra' (((re.mono l1).mono l2).mono l)⟩
theorem ds_asg {tg : Expr} {t : Xp} (he : PE X e (tD X C G W A)) (hg : PG X tg (gU X C G W t)) (hs : swapsWithSole [tg] e pos.line X.env = pure false := by rfl) (hw : swappedStores [tg] e X.env = pure none := by rfl)
    (h1 : (assignEach [tg] X.env).map (·.2) = [assign tg X.env] := by rfl) : PS X (.Assign [tg] e pos) (tS X n C G W (.asg t A)) :=
  PS_imp (ps_asg he hg hs hw h1) fun D' σ H ⟨m, ρ, S, ra, re, p⟩ => ⟨m, ρ, S, ra, re, Post.imp (PostS.ofR re p) fun v H1 ⟨m1, d, S1, l1, ra1, r1, p1⟩ => ⟨m1, ρ, S1, d, ra1, re.mono l1, r1, by
    have key : ∀ ρ' S', setT C G t d ρ S1 ≠ .bk ρ' S' ∧ setT C G t d ρ S1 ≠ .ct ρ' S' ∧ ∀ d', setT C G t d ρ S1 ≠ .rt d' S' := by
      intro ρ' S'
      cases t with
      | ix o i =>
        show CC.ofR (ev C G o ρ S1) ρ _ ≠ _ ∧ CC.ofR (ev C G o ρ S1) ρ _ ≠ _ ∧ ∀ d', CC.ofR (ev C G o ρ S1) ρ _ ≠ _
        cases ev C G o ρ S1 with
        | bad => exact ⟨(fun z => nomatch z), (fun z => nomatch z), fun _ z => nomatch z⟩
        | exc _ _ _ => exact ⟨(fun z => nomatch z), (fun z => nomatch z), fun _ z => nomatch z⟩
        | ok x S2 =>
          simp only [ofR_ok]
          cases ev C G i ρ S2 with
          | bad => exact ⟨(fun z => nomatch z), (fun z => nomatch z), fun _ z => nomatch z⟩
          | exc _ _ _ => exact ⟨(fun z => nomatch z), (fun z => nomatch z), fun _ z => nomatch z⟩
          | ok y S3 =>
            simp only [ofR_ok]
            cases setIx x y d S3 with
            | none => exact ⟨(fun z => nomatch z), (fun z => nomatch z), fun _ z => nomatch z⟩
            | some S4 => exact ⟨(fun z => nomatch z), (fun z => nomatch z), fun _ z => nomatch z⟩
      | sl o l h =>
        show CC.ofR (ev C G o ρ S1) ρ _ ≠ _ ∧ CC.ofR (ev C G o ρ S1) ρ _ ≠ _ ∧ ∀ d', CC.ofR (ev C G o ρ S1) ρ _ ≠ _
        cases ev C G o ρ S1 with
        | bad => exact ⟨(fun z => nomatch z), (fun z => nomatch z), fun _ z => nomatch z⟩
        | exc _ _ _ => exact ⟨(fun z => nomatch z), (fun z => nomatch z), fun _ z => nomatch z⟩
        | ok x S2 =>
          simp only [ofR_ok]
          cases evp C G l ρ S2 with
          | bad => exact ⟨(fun z => nomatch z), (fun z => nomatch z), fun _ z => nomatch z⟩
          | exc _ _ _ => exact ⟨(fun z => nomatch z), (fun z => nomatch z), fun _ z => nomatch z⟩
          | ok y S3 =>
            simp only [ofR_ok]
            cases evp C G h ρ S3 with
            | bad => exact ⟨(fun z => nomatch z), (fun z => nomatch z), fun _ z => nomatch z⟩
            | exc _ _ _ => exact ⟨(fun z => nomatch z), (fun z => nomatch z), fun _ z => nomatch z⟩
            | ok z S4 =>
              simp only [ofR_ok]
              cases setSl x y z d S4 with
              | none => exact ⟨(fun z => nomatch z), (fun z => nomatch z), fun _ z => nomatch z⟩
              | some S5 => exact ⟨(fun z => nomatch z), (fun z => nomatch z), fun _ z => nomatch z⟩
      | _ =>
        rw [setT_bind rfl]
        cases bindT _ d ρ with
        | none => exact ⟨(fun z => nomatch z), (fun z => nomatch z), fun _ z => nomatch z⟩
        | some S4 => exact ⟨(fun z => nomatch z), (fun z => nomatch z), fun _ z => nomatch z⟩
    cases q : setT C G t d ρ S1 with
    | bad => rw [q] at p1; exact p1
    | nx ρ' S' => rw [q] at p1; exact p1
    | exc c pp ρ' S' => rw [q] at p1; exact p1
    | bk ρ' S' => exact absurd q (key ρ' S').1
    | ct ρ' S' => exact absurd q (key ρ' S').2.1
    | rt d' S' => exact absurd q ((key ρ S').2.2 d')⟩⟩
theorem ds_par2 {i j : Nat} {x y : Str} {px py pt : Pos} {kt k2 pt2} (hc : X.calm = true) (hN : X.N.Nodup) (hi : X.N[i]? = some x) (hj : X.N[j]? = some y) (hij : i ≠ j)
    (hx : X.env.scope.names.lookup x = some .local) (hy : X.env.scope.names.lookup y = some .local) (ha : PA X [a, b] (tDs X C G W A))
    (hw : swappedStores [.Tuple [.Name x px, .Name y py] kt pt] (.Tuple [a, b] k2 pt2) X.env = pure (some [x, y]))
    (hs : swapsWithSole [.Tuple [.Name x px, .Name y py] kt pt] (.Tuple [a, b] k2 pt2) pos.line X.env = pure false := by rfl) :
    PS X (.Assign [.Tuple [.Name x px, .Name y py] kt pt] (.Tuple [a, b] k2 pt2) pos) (tS X n C G W (.par [i, j] A)) :=
  PS_imp (ps_par hc hN hi hj hij hx hy ha hw hs) fun D' σ H ⟨m, ρ, S, ra, re, p⟩ => ⟨m, ρ, S, ra, re, Post.imp (PostS.ofR re p) fun vs H1 ⟨m1, ds, S1, l1, ra1, r1, p1⟩ => by
    match ds, r1, p1 with
    | [d1, d2], r1, p1 =>
      obtain ⟨v, w, rfl, q1, q2⟩ := rps2 r1
      exact ⟨v, w, rfl, p1 m1 H1 _ (Le.refl _ _) ra1 (((re.mono l1).set q1).set q2)⟩
    | [], r1, p1 => exact p1.elim
    | [_], r1, p1 => exact p1.elim
    | _ :: _ :: _ :: _, r1, p1 => exact p1.elim⟩
theorem ds_for {tg iter : Expr} {body : List Stmt} {t it : Xp} {B' : Sx} (hp : PassesOwn (model X.prog X.w) X.A X.env X.xe) (hc : X.calm = true) (hi : PI X tg iter (tDi X C G W it)) (hg : PG X tg (gT X.kw X.mg t)) (hb : PSs X body (tS X n C G W B'))
    (hs : ∀ x, foldedSetIterable iter X.env x = pure x := by intro _; rfl) : PS X (.For tg iter body [] pos) (tS X n C G W (.for_ t it B')) :=
  PS_imp (ps_for hp hc hi hg hb hs) fun D' σ H ⟨m, ρ, S, ra, re, p⟩ => by
    refine ⟨m, ρ, S, ra, re, Post.imp (PostS.ofR re p) ?_⟩
    rintro J H1 ⟨m1, src, S1, l1, ra1, sok, p1⟩
    refine ⟨fun i j σ' H' => ∃ m' ρ' S', Le m1 m' H1 H' ∧ RelA X.kw X.mg m' H' S' ∧ RelE X.kw X.mg m' H' σ' ρ' ∧ PostS X.kw X.mg W m' H' (forl src t (fun ρ S => run n C G B' ρ S) j i ρ' S') D', ⟨src.size S1 + 1, m1, ρ, S1, Le.refl _ _, ra1, re.mono l1, p1⟩, ?_⟩
    rintro i j σ' H' ⟨m', ρ', S', l', ra', re', p'⟩
    cases j with
    | zero => exact p'.elim
    | succ j =>
      have p0 : PostS X.kw X.mg W m' H' (match src.get i S' with
        | none => .bad
        | some none => .nx ρ' S'
        | some (some d) => match bindT t d ρ' with
          | none => .bad
          | some ρ1 => match run n C G B' ρ1 S' with
            | .nx ρ2 S2 => forl src t (fun ρ S => run n C G B' ρ S) j (i + 1) ρ2 S2
            | .ct ρ2 S2 => forl src t (fun ρ S => run n C G B' ρ S) j (i + 1) ρ2 S2
            | .bk ρ2 S2 => .nx ρ2 S2
            | r => r) D' := p'
      obtain ⟨stop, go⟩ := sok m' H' S' i l'.lt ra'
      cases hgt : src.get i S' with
      | none => simp only [hgt] at p0; exact p0.elim
      | some o =>
        cases o with
        | none =>
          simp only [hgt] at p0
          exact .inl ⟨stop hgt, p0 m' H' σ' (Le.refl _ _) ra' re'⟩
        | some d =>
          simp only [hgt] at p0
          obtain ⟨g1, g2⟩ := go d hgt
          refine .inr ⟨g1, _, fun σ2 H2 z => ⟨j, Nat.lt_succ_self j, z⟩, fun x H'' hy => ?_⟩
          obtain ⟨ly, ray, rpx⟩ := g2 x H'' hy
          cases hbt : bindT t d ρ' with
          | none => simp only [hbt] at p0; exact p0.elim
          | some ρ1 =>
            simp only [hbt] at p0
            refine ⟨m', ρ', S', d, ρ1, ray, re'.mono ly, rpx, hbt, fun σ2 re2 _ => ⟨m', ρ1, S', ray, re2, ?_⟩⟩
            cases q : run n C G B' ρ1 S' with
            | nx ρ2 S2 => simp only [q] at p0; exact fun m2 H2 σ3 l2 ra2 re3 => ⟨m2, ρ2, S2, (l'.trans ly).trans l2, ra2, re3, PostS.move (ly.trans l2) p0⟩
            | ct ρ2 S2 => simp only [q] at p0; exact fun m2 H2 σ3 l2 ra2 re3 => ⟨m2, ρ2, S2, (l'.trans ly).trans l2, ra2, re3, PostS.move (ly.trans l2) p0⟩
            | bk ρ2 S2 => simp only [q] at p0; exact PostS.move (D' := { D' with nx := _, ct := _, bk := D'.nx }) ly (r := .bk ρ2 S2) p0
            | rt d2 S2 => simp only [q] at p0; exact PostS.move (D' := { D' with nx := _, ct := _, bk := D'.nx }) ly (r := .rt d2 S2) p0
            | exc cc pp ρ2 S2 => simp only [q] at p0; exact PostS.move (D' := { D' with nx := _, ct := _, bk := D'.nx }) ly (r := .exc cc pp ρ2 S2) p0
            | bad => simp only [q] at p0; exact p0
theorem ds_setLc {i : Nat} {y : Str} {py spos : Pos} {elt tg iter : Expr} {ifs : List Expr} {scope : Scope} {own : List (Str × Nat)} {it tx ex cd : Xp} (cx : Ctx true X) (hy : X.N[i]? = some y) (hyl : X.env.scope.names.lookup y = some .local)
    (hsw : swapsWith (.ListComp elt [⟨tg, iter, ifs, 0⟩] scope pos) (some (.Name y py)) spos.line X.env = pure true) (hi : PI X tg iter (tDi X C G W it)) (ok : BlkOk X.N X.env.scope scope own)
    (hg : ∀ (s : Shared) (H : Hp) (L : Addr) (cl : List (Str × Addr)) (fp : List Addr), PG (X.blk s H scope (compEnvC scope cl L X.env) fp) tg (gT X.kw X.mg tx))
    (ht : ∀ (s : Shared) (H : Hp) (L : Addr) (cl : List (Str × Addr)) (fp : List Addr), PTs (X.blk s H scope (compEnvC scope cl L X.env) fp) ifs (tDT X C G W00 cd))
    (he : ∀ (s : Shared) (H : Hp) (L : Addr) (cl : List (Str × Addr)) (fp : List Addr), PE (X.blk s H scope (compEnvC scope cl L X.env) fp) elt (tD X C G W00 ex))
    (hsl : ∀ i ∈ tslots tx, i ∈ own.map (·.2)) (hs : ∀ x, foldedSetIterable iter X.env x = pure x := by intro _; rfl) :
    PS X (.Assign [.Name y py] (.ListComp elt [⟨tg, iter, ifs, 0⟩] scope pos) spos) (tS X n C G W (.asg (.var i) (.lc it tx ex cd (own.map (·.2))))) :=
  PS_imp (ps_setLc (cx.calm rfl) cx.nd hy hyl hsw hi ok hg ht he hs) fun D' σ H ⟨m, ρ, S, ra, re, p⟩ => i_lc hsl ⟨m, ρ, S, ra, re, Post.imp (PostS.ofR re p) fun v H1 ⟨m1, d, S1, l1, ra1, r1, p1⟩ => p1 m1 H1 _ (Le.refl _ _) ra1 ((re.mono l1).set r1)⟩
end
end CC
namespace CC
open PySem PySem.Spec PyProof.Rows L2
theorem rps_ints {K : KW} {mg : Str → Option Value} {m : Mp} {H : Hp} : ∀ ns : List Int, Rps K mg m H (ns.map D.int) (ns.map V.int)
  | [] => .nil
  | n :: ns => .cons (.int n) (rps_ints ns)
abbrev Told (P : Program) (w : World) (fa a : Addr) (s : Shared) : Prop :=
  codeAny (model P w) callerA (.call (.ref fa) ⟨[.ref a], []⟩) (fun r s' => r = .ok (.ret (.bool true)) ∧ PySem.OldK s.heap s'.heap ∧ s'.os = s.os ∧ AllBare s'.gens) s
theorem law_core {P : Program} {w : World} {K : PySem.W.Frag} {mg mb : Str → Option Value} {k : Nat} {fa a : Addr} {x : Str} {kw : List (Nat × List Str × List Nat)} {cs : List D → Sto → R D} {s : Shared} {vs : List Value} {ns : List Int} {H : Hp} {m : Mp} {ob : Obj}
    (KX : K.In s.heap) (hns : s.heap.Ns mainGlobals mg) (hb : s.heap.Ns builtinsNs mb) (hbb : ∀ x : Str, x ≠ "__name__" → mb x = bootBuiltins x) (hlim : s.heap.NoLimit) (hg : s.gens = #[])
    (ha : s.heap.get? a = some ob) (hob : ob = { cls := .type "list", data := .seq vs.toArray }) (hr : Room k callerA)
    (hfa : mg x = some (.ref fa)) (F : ∀ base : Heap, K.In base → base.Ns mainGlobals mg → FnAt P w K mg base k x 1 kw cs)
    (hcs : ∃ S', cs [.loc 0] [.frz (ns.map D.int)] = .ok (.bl true) S')
    (hH : ∀ b, H b = none ∨ (b = a ∧ H b = some (.frz ob (.lst (ns.map V.int))))) (hK : H a ≠ none → K.lookup a = none) (ok : HOk P w H s.heap)
    (ra : RelA ⟨K, w, none⟩ mg m H [.frz (ns.map D.int)]) (rp : Rp ⟨K, w, none⟩ mg m H (.loc 0) (.ref a)) : Told P w fa a s := by
  have only : ∀ b u, H b = some u → b = a ∧ u = .frz ob (.lst (ns.map V.int)) := fun b u z => by
    rcases hH b with q | ⟨q1, q2⟩
    · rw [z] at q; cases q
    · rw [z] at q2; cases q2; exact ⟨q1, rfl⟩
  have nodict : ∀ {b : Addr} {o : Obj} {es : Array DictEntry} {ep : Nat}, s.heap.get? b = some o → o.data = .dict es ep → H b = none := by
    intro b o es ep z1 z2
    rcases hH b with q | ⟨q1, _⟩
    · exact q
    · subst q1
      rw [ha, hob] at z1
      cases z1
      cases z2
  have keepNs : ∀ {b : Addr} {mm : Str → Option Value}, s.heap.Ns b mm → (hidT s.heap H).Ns b mm := by
    rintro b mm ⟨o, es, ep, z1, z2, z3⟩
    exact ⟨o, es, ep, hidT_get z1 (nodict z1 z2), z2, z3⟩
  have inBase : K.In (hidT s.heap H) := by
    intro b o z
    refine hidT_get (KX b o z) ?_
    rcases hH b with q | ⟨q1, q2⟩
    · exact q
    · subst q1
      rw [hK (by rw [q2]; simp)] at z
      cases z
  have md : Mod K mg (hidT s.heap H) := by
    obtain ⟨mc, l1, l2⟩ := hlim
    exact ⟨inBase, keepNs hns, ⟨mb, keepNs hb, hbb⟩, ⟨mc, keepNs l1, l2⟩⟩
  have env : Env0 P w K mg (hidT s.heap H) callerA [] s H :=
    { frames := rfl, mod := md, bs := fun b o z => of_hidT z, bsz := Nat.le_of_eq (hidT_size _ _), funs := trivial, frf := (by intro b z; cases z), hok := ok, bare := .of_eq hg }
  obtain ⟨S', hS⟩ := hcs
  have post : Post ⟨K, w, none⟩ mg (fun _ _ _ => False) (Rp ⟨K, w, none⟩ mg) m H (cs [.loc 0] [.frz (ns.map D.int)]) (fun v _ => v = .bl true) := by
    rw [hS]
    intro m' H' v _ _ r
    cases r
    rfl
  obtain ⟨f, fd, ps, hm, hk, hl, hbd, _, FG⟩ := (F _ inBase (keepNs hns)).ex
  have ef := hfa.symm.trans hm
  cases ef
  have hbs : BindsTo s fd ⟨[.ref a], []⟩ (ps.zip [.ref a]) := by
    have z := hbd s [.ref a] KX (by simpa using hl.symm)
    rw [List.append_nil] at z
    exact z
  refine codeAny_mono (FG.run callerA [] s H ⟨[.ref a], []⟩ [.ref a] [.ref a] m [.loc 0] _ _ _ rfl hr env hbs (.cons rfl .nil) ra (.cons rp .nil) post) ?_
  intro r s' h
  cases r with
  | error e =>
    obtain ⟨_, _, _, _, _, _, _, _, _, _, _, _, z⟩ := h
    exact z.elim
  | ok fl =>
    cases fl with
    | ret u =>
      obtain ⟨v, H', os, bare, un, ok', rv, q⟩ := h
      have q' : v = V.bl true := q
      subst q'
      have rv' : u = Value.bool true := rv
      subst rv'
      refine ⟨rfl, PySem.OldK.of_keep ?_, os, bare⟩
      intro b o z
      cases q : H b with
      | none => exact un.keep b o z q (by intro q; cases q) (by simp)
      | some u =>
        obtain ⟨e1, e2⟩ := only b u q
        subst e2
        have z2 := un.frzs b ob _ q
        obtain ⟨g1, _⟩ := ok b _ q
        obtain ⟨g2, _⟩ := ok' b _ z2
        rw [z] at g1
        cases g1
        exact g2
    | next => exact False.elim h
    | brk => exact False.elim h
    | cont => exact False.elim h
theorem law_g {P : Program} {w : World} {K : PySem.W.Frag} {mg mb : Str → Option Value} {k : Nat} {fa a : Addr} {x : Str} {kw : List (Nat × List Str × List Nat)} {cs : List D → Sto → R D} {s : Shared} {vs : List Value} {ns : List Int}
    (KX : K.In s.heap) (hns : s.heap.Ns mainGlobals mg) (hb : s.heap.Ns builtinsNs mb) (hbb : ∀ x : Str, x ≠ "__name__" → mb x = bootBuiltins x) (hlim : s.heap.NoLimit) (hg : s.gens = #[])
    (ha : s.heap.get? a = some { cls := .type "list", data := .seq vs.toArray }) (hi : IntsAre vs ns) (hl : ns.length ≤ sizeLine) (hr : Room k callerA)
    (hfa : mg x = some (.ref fa)) (F : ∀ base : Heap, K.In base → base.Ns mainGlobals mg → FnAt P w K mg base k x 1 kw cs)
    (hcs : ∃ S', cs [.loc 0] [.frz (ns.map D.int)] = .ok (.bl true) S') : Told P w fa a s := by
  have rv := vals_ints hi
  cases hk : K.lookup a with
  | some o =>
    have e := KX a o hk
    rw [ha] at e
    cases e
    refine law_core (H := fun _ => none) (m := [(a, true)]) KX hns hb hbb hlim hg ha rfl hr hfa F hcs (fun _ => .inl rfl) (fun z => absurd rfl z) (fun b u z => by cases z) ⟨rfl, ?_, ?_, fun _ e => nomatch e⟩ (.loc (b := true) rfl)
    · intro i j c h1 h2
      match i, h1 with
      | 0, h1 => cases h1
    · intro i p so h1 h2
      match i, h1, h2 with
      | 0, h1, h2 =>
        cases h1
        cases h2
        refine ⟨ns.map V.int, .inr ⟨rfl, _, vs.toArray, _, hk, rfl, rfl, rfl, ?_, by simpa using rv⟩, rps_ints ns⟩
        rw [List.size_toArray, hi.length]
        exact hl
  | none =>
    have at_a : (fun b : Addr => if b = a then some (HO.frz { cls := .type "list", data := .seq vs.toArray } (.lst (ns.map V.int))) else none) a = some (.frz { cls := .type "list", data := .seq vs.toArray } (.lst (ns.map V.int))) := if_pos rfl
    refine law_core (H := fun b => if b = a then some (.frz { cls := .type "list", data := .seq vs.toArray } (.lst (ns.map V.int))) else none) (m := [(a, false)]) KX hns hb hbb hlim hg ha rfl hr hfa F hcs ?_ (fun _ => hk) ?_ ⟨rfl, ?_, ?_, fun _ e => nomatch e⟩ (.loc (b := false) rfl)
    · intro b
      by_cases q : b = a
      · exact .inr ⟨q, if_pos q⟩
      · exact .inl (if_neg q)
    · intro b u z
      by_cases q : b = a
      · subst q
        have z' := at_a.symm.trans z
        cases z'
        exact ⟨ha, by rw [List.length_map]; exact hl, vs, _, rv, ha⟩
      · have z' := (if_neg q).symm.trans z
        cases z'
    · intro i j c h1 h2
      match i, j, h1, h2 with
      | 0, 0, _, _ => rfl
    · intro i p so h1 h2
      match i, h1, h2 with
      | 0, h1, h2 =>
        cases h1
        cases h2
        exact ⟨ns.map V.int, .inl ⟨rfl, _, at_a⟩, rps_ints ns⟩
theorem walk_e {l : PySem.W.OpenLaw} {n k : Nat} {q : Program} {loose : List Str} {XP : (Str → Option Value) → Heap → Prop} {YP : World → Heap → Prop} {d : DefRec} {x : Str} {kw : List (Nat × List Str × List Nat)} {cs : List D → Sto → R D}
    (hn : l.most = some n) (hn2 : n ≤ sizeLine) (hdf : d.params.defaults = []) (hx : d.name = x) (hr : Room k callerA)
    (F : ∀ (w : World) (mg : Str → Option Value) (h : Heap), YP w h → h.Ns mainGlobals mg →
      ∃ K : PySem.W.Frag, K.In h ∧ ∀ base : Heap, K.In base → base.Ns mainGlobals mg → FnAt l.prog w K mg base k x 1 kw cs)
    (hcs : ∀ ns : List Int, ns.length ≤ n → ∃ S', cs [.loc 0] [.frz (ns.map D.int)] = .ok (.bl true) S') :
    PySem.W.WalkO q loose XP YP l.row.toRowW d [] (fun f vs => PySem.call f vs) := by
  refine Att.attach_call hn hdf ?_
  intro w s₀ s₁ mg mb fa o pm cd doc a vs ns G Y ho hd hcd hmg hobj hints hlen hgens
  obtain ⟨K, KX, hF⟩ := F w mg _ Y G.T.g
  exact law_g KX G.T.g G.T.b G.T.builtins G.T.nolimit hgens hobj hints (Nat.le_trans hlen hn2) hr (hx ▸ hmg) hF (hcs ns hlen)
theorem post_end {K : KW} {mg : Str → Option Value} {E : XK} {m : Mp} {H : Hp} {r : Rs} {Q : VK} (h : Post K mg E (Rp K mg) m H (endR r) Q) : PostS K mg (fun c d _ H' => E c d H') m H r { nx := fun _ H' => Q .non H', rt := Q } := by
  cases r with
  | nx ρ S => exact fun m' H' σ l ra _ => h m' H' .non l ra .non
  | rt d S => exact h
  | exc c p ρ S => exact fun m' H' σ cls dd l ra _ rx => h m' H' cls dd l ra rx
  | bk _ _ => exact h.elim
  | ct _ _ => exact h.elim
  | bad => exact h
theorem relE_start {K : KW} {mg : Str → Option Value} {m : Mp} {H : Hp} {N : List Str} {n : Nat} {ds : List D} {vs : List V} (hn : N.length = n) (rs : Rps K mg m H ds vs) : RelE K mg m H (start N vs) (startE n ds) := by
  unfold L2.start startE
  refine ⟨by simp [rs.length, hn], fun i d e => ?_⟩
  by_cases c : i < ds.length
  · rw [List.getElem?_append_left (by simpa using c), List.getElem?_map] at e
    cases q : ds[i]? with
    | none => rw [q] at e; cases e
    | some d' =>
      rw [q] at e
      cases e
      obtain ⟨v, h1, h2⟩ := rs.get q
      refine ⟨v, ?_, h2⟩
      rw [List.getElem?_append_left (by rw [List.length_map, rs.length]; exact c), List.getElem?_map, h1]
      rfl
  · rw [List.getElem?_append_right (by simpa using Nat.le_of_not_lt c), List.getElem?_replicate] at e
    split at e <;> cases e
structure NoB (mg : Str → Option Value) : Prop where
  no : ∀ x ∈ bnames, mg x = none
theorem def_ok {P : Program} {w : World} {K : PySem.W.Frag} {mg : Str → Option Value} {base : Heap} {k : Nat} {f : Addr} {x y0 qual : Str} {st : Stmt} {fdd : FuncData} {N ps : List Str} {i n : Nat} {fd : Fd} {C : CallSem} {G : Nat → Option D} {T : Nat → Option Fd}
    (nob : NoB mg) (F : Fun K y0 qual st f fdd) (sc : FnScope N ps (defScope st)) (hT : T i = some fd) (hps : ps.length = fd.np) (hN : N.length = fd.n) (hm : mg x = some (.ref f)) (hb : Binds K fdd ps []) {kw : List (Nat × List Str × List Nat)} (hkb : ∀ q ∈ kw, KB fdd ps q)
    (der : ∀ (cdv : Value) (A : Around) (outer : List PySem.Env) (s : Shared) (H : Hp) (E : XK), Ctx true (cxOf (L2N.CX P w) P w K mg base N qual (defScope st) f cdv A outer s H E) → Room k (cxOf (L2N.CX P w) P w K mg base N qual (defScope st) f cdv A outer s H E).A →
      L2N.Takes (cxOf (L2N.CX P w) P w K mg base N qual (defScope st) f cdv A outer s H E) (fun c d _ H' => E c d H') →
      PassesOwn (model P w) (A.deeper (envOfC qual (defScope st) s.heap.objs.size f cdv)) (envOfC qual (defScope st) s.heap.objs.size f cdv) (cxOf (L2N.CX P w) P w K mg base N qual (defScope st) f cdv A outer s H E).xe →
      PSs (cxOf (L2N.CX P w) P w K mg base N qual (defScope st) f cdv A outer s H E) (defBody st) (tS (cxOf (L2N.CX P w) P w K mg base N qual (defScope st) f cdv A outer s H E) n C G (fun c d _ H' => E c d H') fd.body)) :
    FnAt P w K mg base (k + 1) x fd.np kw (fun ds S => if ds.length = fd.np then trim S (endR (run n C G fd.body (startE fd.n ds) S)) else .bad) := by
  refine ⟨f, fdd, ps, hm, F.kp, hps, hb, hkb, fnG_of F sc (fun ds S h => ?_) ?_⟩
  · by_cases c : ds.length = fd.np
    · rw [c, hps]
    · rw [if_neg c] at h
      exact absurd rfl h
  · intro cdv A outer s H vs m ds S Q E hg room ra rs post
    have c : ds.length = fd.np := by
      by_cases c : ds.length = fd.np
      · exact c
      · rw [if_neg c] at post
        exact post.elim
    rw [if_pos c] at post
    have ek : (cxOf (L2N.CX P w) P w K mg base N qual (defScope st) f cdv A outer s H E).kw = (⟨K, w, none⟩ : KW) := kw_calm (X := cxOf (L2N.CX P w) P w K mg base N qual (defScope st) f cdv A outer s H E) room
    rw [← ek] at ra rs post
    refine ⟨_, der cdv A outer s H E ⟨fun _ => rfl, ?_, sc.nd, hg, nob.no, .inl room.hd⟩ room (L2N.takes_of rfl rfl rfl rfl) (passes_of rfl), m, _, S, ra, relE_start hN rs, post_end (Post.trim ra post)⟩
    have hu := room.un
    show (A.deeper (envOfC qual (defScope st) s.heap.objs.size f cdv)).units + 100 < cLine
    omega
section
open PySem.PyData
mutual
theorem shown_le : ∀ p : PyData, p.showable = true → dic0 p = true → p.shown.length ≤ shB p
  | .none, _, _ => by decide +kernel
  | .bool b, _, _ => by cases b <;> decide +kernel
  | .int i, h, _ => by
    have h' : i.natAbs.log2 < 1920 := of_decide_eq_true (by simpa only [PyData.showable] using h)
    simp only [PyData.shown, shB]
    have := int_text_length_le (a := i) (k := i.natAbs.log2 + 1) (by omega) (by omega)
    rw [PySem.ofString_length]
    omega
  | .str x, _, _ => by simp only [PyData.shown, shB]; exact Nat.le_refl _
  | .list xs, h, h2 => by
    have ih := shown_les xs (by simpa only [PyData.showable] using h) (by simpa only [dic0] using h2)
    simp only [PyData.shown, shB]
    have := listText_len_le (shownAll xs)
    rw [shownAll_length] at this
    omega
  | .tuple xs, h, h2 => by
    have ih := shown_les xs (by simpa only [PyData.showable] using h) (by simpa only [dic0] using h2)
    simp only [PyData.shown, shB]
    have := PySem.fmt_text (shownAll xs)
    have e : piled (shownAll xs) = ((shownAll xs).map (·.length)).sum + 2 * xs.length := piled_eq xs
    omega
  | .dict [], _, _ => by decide +kernel
  | .dict (_ :: _), _, h2 => by simp [dic0] at h2
theorem shown_les : ∀ xs : List PyData, PyData.showableAll xs = true → dic0s xs = true → ((shownAll xs).map (·.length)).sum + 2 * xs.length ≤ shBs xs
  | [], _, _ => by simp [shownAll, shBs]
  | x :: xs, h, h2 => by
    simp only [PyData.showableAll, Bool.and_eq_true] at h
    simp only [dic0s, Bool.and_eq_true] at h2
    have h3 := shown_le x h.1 h2.1
    have ih := shown_les xs h.2 h2.2
    simp only [shownAll, shBs, List.map_cons, List.sum_cons, List.length_cons]
    omega
theorem shownAll_length : ∀ xs : List PyData, (shownAll xs).length = xs.length
  | [] => by simp [shownAll]
  | x :: xs => by simp [shownAll, shownAll_length xs]
theorem piled_eq : ∀ xs : List PyData, piled (shownAll xs) = ((shownAll xs).map (·.length)).sum + 2 * xs.length
  | [] => by simp [shownAll, piled]
  | x :: xs => by
    have ih := piled_eq xs
    unfold piled at ih ⊢
    simp only [shownAll, List.map_cons, List.sum_cons, List.length_cons]
    omega
end
end
mutual
inductive Dq (K : PySem.W.Frag) (H : Hp) : V → PyData → Prop
  | non : Dq K H .non .none
  | bl (b : Bool) : Dq K H (.bl b) (.bool b)
  | int (i : Int) : Dq K H (.int i) (.int i)
  | str (x : Str) : Dq K H (.str x) (.str x)
  | lst {a : Addr} {xs : List V} {ds : List PyData} : SqL K H a xs → Dqs K H xs ds → Dq K H (.ref a) (.list ds)
  | tup {a : Addr} {xs : List V} {ds : List PyData} : SqT K H a xs → Dqs K H xs ds → Dq K H (.ref a) (.tuple ds)
  | dic {a : Addr} : Rd H a (.dK []) → Dq K H (.ref a) (.dict [])
inductive Dqs (K : PySem.W.Frag) (H : Hp) : List V → List PyData → Prop
  | nil : Dqs K H [] []
  | cons {v : V} {vs : List V} {d : PyData} {ds : List PyData} : Dq K H v d → Dqs K H vs ds → Dqs K H (v :: vs) (d :: ds)
end
section
variable {K : KW} {mg : Str → Option Value} {m : Mp} {H : Hp} {S : Sto}
theorem toQs_dq (f : D → Option PyData) (hf : ∀ d v p, Rp K mg m H d v → f d = some p → Dq K H v p) : ∀ {ds : List D} {vs : List V} {ps : List PyData}, Rps K mg m H ds vs → ds.mapM f = some ps → Dqs K H vs ps
  | _, _, ps, .nil, e => by
    rw [List.mapM_nil] at e
    cases e
    exact .nil
  | d :: ds, v :: vs, ps, .cons h hs, e => by
    rw [List.mapM_cons] at e
    cases q : f d with
    | none => rw [q] at e; cases e
    | some p =>
      rw [q] at e
      cases q2 : ds.mapM f with
      | none => rw [q2] at e; cases e
      | some r =>
        rw [q2] at e
        cases e
        exact .cons (hf d v p h q) (toQs_dq f hf hs q2)
theorem toQ_dq (ra : RelA K mg m H S) : ∀ (n : Nat) (d : D) (v : V) (p : PyData), Rp K mg m H d v → toQ S n d = some p → Dq K H v p
  | n, _, _, p, .non, e => by cases n <;> (cases e; exact .non)
  | n, _, _, p, .bl b, e => by cases n <;> (cases e; exact .bl b)
  | n, _, _, p, .int i, e => by cases n <;> (cases e; exact .int i)
  | n, _, _, p, .str x, e => by cases n <;> (cases e; exact .str x)
  | n, _, _, p, .ty t, e => by cases n <;> cases e
  | n, _, _, p, .fn h, e => by cases n <;> cases e
  | n, _, _, p, .exn h1 h2 h hf hs, e => by cases n <;> cases e
  | n, _, _, p, .cls h1 h2, e => by cases n <;> cases e
  | n, _, _, p, .fm h hk hq hs, e => by cases n <;> cases e
  | n, _, _, p, .bd h hs, e => by cases n <;> cases e
  | n, _, _, p, .bm h hk hq hs, e => by cases n <;> cases e
  | 0, _, _, p, .tup h hs, e => by cases e
  | 0, _, _, p, .loc h, e => by cases e
  | 0, _, _, p, .fl h hs, e => by cases e
  | n, _, _, p, .fd (ks := []) (ds := []) (kvs := []) h hk hs, e => by
    have e' : some (PyData.dict []) = some p := by cases n <;> exact e
    cases e'
    exact .dic (.inr ⟨_, h⟩)
  | n, _, _, p, .fd (ks := []) (ds := []) (kvs := _ :: _) h hk hs, e => by cases hk
  | n, _, _, p, .fd (ks := _ :: _) (ds := _) h hk hs, e => by cases n <;> cases e
  | n, _, _, p, .fd (ks := []) (ds := _ :: _) h hk hs, e => by cases n <;> cases e
  | n + 1, _, _, p, .fl (ds := ds) h hs, e => by
    unfold toQ at e
    cases q : ds.mapM (toQ S n) with
    | none => rw [q] at e; cases e
    | some ps =>
      rw [q] at e
      cases e
      exact .lst (.inl (.inr ⟨_, h⟩)) (toQs_dq (toQ S n) (fun d v p r z => toQ_dq ra n d v p r z) hs q)
  | n + 1, _, _, p, .tup (ds := ds) h hs, e => by
    unfold toQ at e
    cases q : ds.mapM (toQ S n) with
    | none => rw [q] at e; cases e
    | some ps =>
      rw [q] at e
      cases e
      exact .tup h.t (toQs_dq (toQ S n) (fun d v p r z => toQ_dq ra n d v p r z) hs q)
  | n + 1, _, _, p, .loc (n := k) h, e => by
    unfold toQ at e
    cases q0 : lstAt S k with
    | none =>
      rw [q0] at e
      cases q1 : dicAt S k with
      | none => simp only [q1] at e; cases e
      | some kvs =>
        simp only [q1] at e
        cases kvs with
        | cons _ _ => cases e
        | nil =>
          cases e
          obtain ⟨ks, g1, g2⟩ := dic_ro ra h q1
          have : ks = [] := by
            have := g2.1
            cases ks with
            | nil => rfl
            | cons _ _ => cases this
          subst this
          exact .dic g1
    | some ds =>
      rw [q0] at e
      obtain ⟨vs, h1, h2⟩ := ra.seq h q0
      cases q : ds.mapM (toQ S n) with
      | none =>
        have e' : (ds.mapM (toQ S n)).map PyData.list = some p := e
        rw [q] at e'; cases e'
      | some ps =>
        have e' : (ds.mapM (toQ S n)).map PyData.list = some p := e
        rw [q] at e'
        cases e'
        exact .lst h1 (toQs_dq (toQ S n) (fun d v p r z => toQ_dq ra n d v p r z) h2 q)
end
section
variable {X : Cx} {pins : List (Addr × Obj)} {σ : L2.St} {H : Hp} {s : Shared}
theorem dk0_at (I : Inv X pins σ H s) {a : Addr} (h : Rd H a (.dK [])) : (a == sysModules) = false ∧ ∃ o n, s.heap.get? a = some o ∧ o.cls = .type "dict" ∧ o.data = .dict #[] n := by
  obtain ⟨_, hs, vs, r, o, es, ep, h1, h2, h3, _, h5, _⟩ := dk_rd I.hok h
  cases r
  have : es = #[] := by
    obtain ⟨l⟩ := es
    cases h5
    rfl
  subst this
  exact ⟨hs, o, ep, h1, h2.1, h3⟩
mutual
theorem Dq.rd (I : Inv X pins σ H s) : ∀ (d : PyData) (v : V) (u : Value), Dq X.K H v d → RelV v u → ∃ as, Reads s.heap u d as
  | .none, _, _, h, r => by
    cases h
    cases r
    exact ⟨_, Reads.none⟩
  | .bool b, _, _, h, r => by
    cases h
    cases r
    exact ⟨_, Reads.bool b⟩
  | .int i, _, _, h, r => by
    cases h
    obtain ⟨t, rfl⟩ := r
    exact ⟨_, Reads.int i t⟩
  | .str x, _, _, h, r => by
    cases h
    obtain ⟨t, rfl⟩ := r
    exact ⟨_, Reads.str x t⟩
  | .list ds, _, _, h, r => by
    cases h with
    | lst hs ha =>
      cases r
      obtain ⟨its, rv, ⟨o, n, ho, hc, _, hd⟩, _⟩ := I.list hs
      obtain ⟨as, hr⟩ := Dqs.rd I ds _ its ha rv
      exact ⟨_, Reads.list ho hc hd hr⟩
  | .tuple ds, _, _, h, r => by
    cases h with
    | tup hs ha =>
      cases r
      obtain ⟨its, rv, ⟨o, ho, hc, n, hd⟩, _⟩ := I.tuple hs
      obtain ⟨as, hr⟩ := Dqs.rd I ds _ its ha rv
      exact ⟨_, Reads.tuple ho hc hd hr⟩
  | .dict _, _, _, h, r => by
    cases h with
    | dic hd =>
      cases r
      obtain ⟨_, o, n, h1, h2, h3⟩ := dk0_at I hd
      exact ⟨_, Reads.dict h1 h2 h3 .nil .nil⟩
theorem Dqs.rd (I : Inv X pins σ H s) : ∀ (ds : List PyData) (vs : List V) (us : List Value), Dqs X.K H vs ds → Vals vs us → ∃ as, ReadsAll s.heap us ds as
  | [], _, _, h, r => by
    cases h
    cases r
    exact ⟨_, ReadsAll.nil⟩
  | d :: ds, _, _, h, r => by
    cases h with
    | cons h1 h2 =>
      cases r with
      | cons r1 r2 =>
        obtain ⟨as, q1⟩ := Dq.rd I d _ _ h1 r1
        obtain ⟨bs, q2⟩ := Dqs.rd I ds _ _ h2 r2
        exact ⟨_, ReadsAll.cons q1 q2⟩
end
mutual
theorem Dq.rk {prog : Program} {w : World} (I : Inv X pins σ H s) : ∀ (d : PyData) (v : V) (u : Value), Dq X.K H v d → RelV v u → d.showable = true → d.shown.length ≤ sizeLine → ∃ bs, ReadAtMost s.heap d.depth bs ∧ ReprK prog w bs s.heap d.depth u d.shown
  | .none, _, _, h, r, _, _ => by
    cases h
    cases r
    exact ⟨[], (fun _ h => nomatch h), by simp only [PyData.shown]; exact .of_is ReprIs.none _ _ _⟩
  | .bool b, _, _, h, r, _, _ => by
    cases h
    cases r
    exact ⟨[], (fun _ h => nomatch h), by simp only [PyData.shown]; exact .of_is (ReprIs.bool b) _ _ _⟩
  | .int i, _, _, h, r, hs, _ => by
    cases h
    obtain ⟨t, rfl⟩ := r
    exact ⟨[], (fun _ h => nomatch h), by simp only [PyData.shown]; exact .of_is (ReprIs.int t (by simpa [PyData.showable] using hs)) _ _ _⟩
  | .str x, _, _, h, r, _, hz => by
    cases h
    obtain ⟨t, rfl⟩ := r
    exact ⟨[], (fun _ h => nomatch h), by simp only [PyData.shown]; exact .of_is (ReprIs.str x t (by simpa only [PyData.shown] using hz)) _ _ _⟩
  | .list xs, _, _, h, r, hs, hz => by
    obtain ⟨as0, r0⟩ := Dq.rd I (.list xs) _ _ h r
    cases h with
    | lst hq ha =>
      cases r
      obtain ⟨its, rv, ⟨o, n, h1, h2, _, h3⟩, _⟩ := I.list hq
      have hz' : (listText (PyData.shownAll xs)).length ≤ sizeLine := by simpa only [PyData.shown] using hz
      obtain ⟨bs, hb, hk⟩ := Dqs.rk (prog := prog) (w := w) I xs _ its ha rv (by simpa [PyData.showable] using hs) (fun t ht => Nat.le_trans (listText_mem_le ht) hz')
      have hna := not_mem_of_deeper r0 (by simp only [PyData.depth]; omega) hb
      refine ⟨_ :: bs, ReadAtMost.cons r0 (by simp only [PyData.depth]; omega) hb, ?_⟩
      simp only [PyData.depth, PyData.shown]
      cases its with
      | nil =>
        cases rv
        cases ha
        simp only [PyData.shownAll, listText_nil]
        exact ReprK.listEmpty h1 h2 h3
      | cons x l => exact ReprK.list h1 h2 h3 hna (by simpa using hk.length_eq) (fun i y e => hk.item i y (by simpa using e))
  | .tuple xs, _, _, h, r, hs, hz => by
    obtain ⟨as0, r0⟩ := Dq.rd I (.tuple xs) _ _ h r
    cases h with
    | tup hq ha =>
      cases r
      obtain ⟨its, rv, ⟨o, h1, h2, n, h3⟩, _⟩ := I.tuple hq
      have hz' : (tupleText (PyData.shownAll xs)).length ≤ sizeLine := by simpa only [PyData.shown] using hz
      obtain ⟨bs, hb, hk⟩ := Dqs.rk (prog := prog) (w := w) I xs _ its ha rv (by simpa [PyData.showable] using hs) (fun t ht => Nat.le_trans (tupleText_mem_le ht) hz')
      have hna := not_mem_of_deeper r0 (by simp only [PyData.depth]; omega) hb
      refine ⟨_ :: bs, ReadAtMost.cons r0 (by simp only [PyData.depth]; omega) hb, ?_⟩
      simp only [PyData.depth, PyData.shown]
      exact ReprK.tuple h1 h2 h3 hna hk
  | .dict _, _, _, h, r, _, _ => by
    cases h with
    | dic hd =>
      cases r
      obtain ⟨hsys, o, n, h1, h2, h3⟩ := dk0_at I hd
      have r0 : Reads s.heap (.ref _) (.dict []) _ := Reads.dict (kvs := []) h1 h2 h3 .nil .nil
      refine ⟨[_], ReadAtMost.cons r0 (Nat.zero_le _) (n := 0) (fun _ h => nomatch h), ?_⟩
      simp only [PyData.depth, PyData.shown]
      exact ReprK.dict h1 h2 h3 hsys (by simp) .nil
theorem Dqs.rk {prog : Program} {w : World} (I : Inv X pins σ H s) : ∀ (ds : List PyData) (vs : List V) (us : List Value), Dqs X.K H vs ds → Vals vs us → PyData.showableAll ds = true → (∀ t ∈ PyData.shownAll ds, t.length ≤ sizeLine) →
    ∃ bs, ReadAtMost s.heap (PyData.depthAll ds) bs ∧ ReprAllK prog w bs s.heap (PyData.depthAll ds) us (PyData.shownAll ds)
  | [], _, _, h, r, _, _ => by
    cases h
    cases r
    exact ⟨[], (fun _ h => nomatch h), by simp only [PyData.shownAll]; exact .nil⟩
  | d :: ds, _, _, h, r, hs, hz => by
    cases h with
    | cons h1 h2 =>
      cases r with
      | cons r1 r2 =>
        have hs' : d.showable = true ∧ PyData.showableAll ds = true := by simpa [PyData.showableAll] using hs
        obtain ⟨b1, hb1, k1⟩ := Dq.rk (prog := prog) (w := w) I d _ _ h1 r1 hs'.1 (hz _ (by simp only [PyData.shownAll]; exact List.mem_cons_self ..))
        obtain ⟨b2, hb2, k2⟩ := Dqs.rk (prog := prog) (w := w) I ds _ _ h2 r2 hs'.2 (fun t ht => hz t (by simp only [PyData.shownAll]; exact List.mem_cons_of_mem _ ht))
        refine ⟨b1 ++ b2, (hb1.mono (by simp only [PyData.depthAll]; omega)).append (hb2.mono (by simp only [PyData.depthAll]; omega)), ?_⟩
        simp only [PyData.depthAll, PyData.shownAll]
        exact .cons ((k1.more fun b hb => List.mem_append_left _ hb).level_le (Nat.le_max_left _ _)) (k2.more_le (fun b hb => List.mem_append_right _ hb) (Nat.le_max_right _ _))
end
theorem Dq.shows {prog : Program} {w : World} (I : Inv X pins σ H s) {d : PyData} {a : Addr} (h : Dq X.K H (.ref a) d) (hs : d.showable = true) (hsz : d.shown.length ≤ sizeLine) : ∃ T idr, ShowsBy prog w s.heap a d T idr := by
  obtain ⟨as0, r0⟩ := Dq.rd I d _ (.ref a) h rfl
  cases h with
  | lst hq ha =>
    rename_i vs0 xs
    obtain ⟨its, rv, ⟨o, n, h1, h2, _, h3⟩, _⟩ := I.list hq
    have hz' : (listText (PyData.shownAll xs)).length ≤ sizeLine := by simpa only [PyData.shown] using hsz
    obtain ⟨bs, hb, hk⟩ := Dqs.rk (prog := prog) (w := w) I xs _ its ha rv (by simpa [PyData.showable] using hs) (fun t ht => Nat.le_trans (listText_mem_le ht) hz')
    have hna := not_mem_of_deeper r0 (by simp only [PyData.depth]; omega) hb
    refine ⟨"list", "list.__repr__", F.slot_list_repr.toG, F.slot_list_str, F.slot_list_format, fun s hk0 => ⟨o, hk0 _ _ h1, h2⟩, fun A E s Q hg hu hk0 hQ => ?_⟩
    simp only [PyData.depth] at hu
    simp only [PyData.shown] at hQ
    cases its with
    | nil =>
      cases rv
      cases ha
      simp only [PyData.shownAll, listText_nil] at hQ
      exact call_list_repr_empty ⟨o, hk0 _ _ h1, h2⟩ (hk0 _ _ h1) h3 (hQ s.heap _ _ fun _ _ e => e)
    | cons x l =>
      exact call_list_reprK h1 h2 h3 hna (by simpa using hk.length_eq) (fun i y e => hk.item i y (by simpa using e)) hg (fun b _ => Clear.nil b) hu hk0 hQ hz'
  | tup hq ha =>
    rename_i vs0 xs
    obtain ⟨its, rv, ⟨o, h1, h2, n, h3⟩, _⟩ := I.tuple hq
    have hz' : (tupleText (PyData.shownAll xs)).length ≤ sizeLine := by simpa only [PyData.shown] using hsz
    obtain ⟨bs, hb, hk⟩ := Dqs.rk (prog := prog) (w := w) I xs _ its ha rv (by simpa [PyData.showable] using hs) (fun t ht => Nat.le_trans (tupleText_mem_le ht) hz')
    have hna := not_mem_of_deeper r0 (by simp only [PyData.depth]; omega) hb
    refine ⟨"tuple", "tuple.__repr__", F.slot_tuple_repr, F.slot_tuple_str, F.slot_tuple_format, fun s hk0 => ⟨o, hk0 _ _ h1, h2⟩, fun A E s Q hg hu hk0 hQ => ?_⟩
    simp only [PyData.depth] at hu
    simp only [PyData.shown] at hQ
    exact call_tuple_reprK h1 h2 h3 hna hk hg (fun b _ => Clear.nil b) hu hk0 hQ hz'
  | dic hd =>
    obtain ⟨hsys, o, n, h1, h2, h3⟩ := dk0_at I hd
    refine ⟨"dict", "dict.__repr__", F.slot_dict_repr, F.slot_dict_str, F.slot_dict_format, fun s hk0 => ⟨o, hk0 _ _ h1, h2⟩, fun A E s Q hg hu hk0 hQ => ?_⟩
    simp only [PyData.depth] at hu
    simp only [PyData.shown, PyData.shownKv] at hQ
    exact call_dict_reprK (as := []) h1 h2 h3 hsys (by simp) .nil hg (fun b _ => Clear.nil b) hu hk0 hQ (by decide +kernel)
end
section
variable {X : Cx} {C : CallSem} {G : Nat → Option D} {W : WX} {pos : Pos} {n : Nat}
theorem bi_repr {cb : Bool} (cx : Ctx cb X) : CallR X (.builtin "repr") (rBi X.kw X.mg .repr) := by
  intro pins s σ H xs us Q I r ⟨W, m, S, ds, ra, rs, p⟩
  cases ds with
  | nil => exact p.elim
  | cons d ds =>
  cases ds with
  | cons _ _ => exact p.elim
  | nil =>
    obtain ⟨x, rfl, rx⟩ := rps1 rs
    obtain ⟨z, hz, p'⟩ := post_opt (show Post X.kw X.mg W (Rp X.kw X.mg) m H (R.opt (repD d S) S) Q from p)
    have hz' : ((toQ S 50 d).bind fun p => if repOk p then some (D.str p.shown) else none) = some z := hz
    cases hp : toQ S 50 d with
    | none => rw [hp] at hz'; cases hz'
    | some pd =>
      rw [hp] at hz'
      have hz2 : (if repOk pd then some (D.str pd.shown) else none) = some z := hz'
      by_cases c : repOk pd = true
      · rw [if_pos c] at hz2
        cases hz2
        unfold repOk at c
        simp only [Bool.and_eq_true, decide_eq_true_eq] at c
        obtain ⟨⟨⟨c1, c2⟩, c3⟩, c4⟩ := c
        have q : Q (.str pd.shown) H := p'.now ra (.str _)
        have dp := toQ_dq ra 50 d x pd rx hp
        obtain ⟨u, rfl, ru⟩ := vals1 r
        have ref : ∀ a, x = .ref a → wpAny (model X.prog X.w) X.A (call (.builtin "repr") [u]) (EP X pins σ Q) X.xe s := by
          intro a ea
          subst ea
          have ru' : u = Value.ref a := ru
          subst ru'
          have hu := cx.hu
          obtain ⟨T, idr, Sh⟩ := Dq.shows (prog := X.prog) (w := X.w) I dp c1 (Nat.le_trans (shown_le pd c1 c2) c4)
          exact call_repr_slot (by omega) (Sh.typeIs s (fun _ _ e => e)) Sh.slotRepr (Sh.call X.A.in1 X.xe s _ cx.g (by show X.A.units + 1 + pd.depth < cLine; omega) (fun _ _ e => e) fun h' t tk k => ⟨_, _, rfl, ⟨.str _, H, I.kept (t' := tk) k, ⟨t, rfl⟩, q⟩⟩)
        cases rx with
        | tup _ _ => exact ref _ rfl
        | loc _ => exact ref _ rfl
        | fl _ _ => exact ref _ rfl
        | fm _ _ _ _ => exact ref _ rfl
        | bd _ _ => exact ref _ rfl
        | bm _ _ _ _ => exact ref _ rfl
        | fd _ _ _ => exact ref _ rfl
        | int i =>
          obtain ⟨t, rfl⟩ := ru
          cases dp
          exact PySem.P.repr_of_int (of_decide_eq_true (by simpa only [PyData.showable] using c1)) ⟨.str _, H, I.tok _, ⟨_, rfl⟩, by simpa only [PyData.shown] using q⟩
        | bl b =>
          have ru' : u = Value.bool b := ru
          subst ru'
          cases dp
          exact PySem.P.repr_of_bool ⟨.str _, H, I.tok _, ⟨_, rfl⟩, by simpa only [PyData.shown] using q⟩
        | str y =>
          obtain ⟨t, rfl⟩ := ru
          cases dp
          have e := shown_le (.str y) c1 c2
          exact PySem.P.repr_of_str ⟨.str _, H, I.tok _, ⟨_, rfl⟩, by simpa only [PyData.shown] using q⟩ (Nat.le_trans (by simpa only [PyData.shown] using e) c4)
        | non =>
          have ru' : u = Value.none := ru
          subst ru'
          cases dp
          exact PySem.P.repr_of_none ⟨.str _, H, I.tok _, ⟨_, rfl⟩, by simpa only [PyData.shown] using q⟩
        | ty t => cases hp
        | fn h => cases hp
        | exn _ _ _ _ _ => cases hp
        | cls _ _ => cases hp
      · rw [if_neg c] at hz2
        cases hz2
structure ExTxt (K : PySem.W.Frag) (mg : Str → Option Value) (x : Str) : Prop where
  ex : ∃ Cl : Addr, mg x = some (.ref Cl) ∧ PySem.W.excIn K Cl [.type "ValueError", .type "Exception", .type "BaseException", .type "object"] "ValueError.__new__" = true ∧ PySem.W.keepIn K (.ref Cl) = true ∧
    PySem.W.subIn K (.ref Cl) (.type "BaseException") = some true ∧ PySem.W.typeIn K (.ref Cl) = some (.type "type")
theorem pmk_zero {Cl : Addr} {bmB : List Value} {B newId initId : String} {x : Str} {p pos' : Pos} (F : ExcBaseFacts B newId initId bmB) (q : PySem.W.excIn X.K Cl bmB newId = true) (gC : X.mg x = some (.ref Cl)) (kC : PySem.W.keepIn X.K (.ref Cl) = true) (r : Raises X (.ref Cl)) (hg : Gl X x)
    (hdb : (x == ("__debug__" : Str)) = false := by decide) : L2N.PMk X (.Call (.Name x p) [] [] pos') (fun _ H Q => Q (.ref Cl) none H) := by
  intro pins s σ H Q I h
  refine wpAny_Call_Name_kw (ld_glob I hg gC ?_ hdb)
  refine PySem.W.callWith_K0 I.kIn kC ?_
  show wpAny _ _ (call (.ref Cl) []) _ _ _
  obtain ⟨bm, N, nm, qn, bs, hdct, sn, sub, ab, col, dd, k0, k1, k2, k3, k5, mN, hC, hN, hni, T⟩ := exc_obj I.kIn q
  refine wpAny_call_exc_subT F T hC hN hni (fun h' e hm => ?_) (by show 0 ≤ sizeLine; omega)
  exact L2N.mk_of I hm r h (I.hok.gone hm.new)
theorem ds_raise0 {c : Nat} {x : Str} {p pos' pos2 : Pos} (hx : exNames[c]? = some x) (xt : ExTxt X.K X.mg x) (cx : Ctx true X) (tk : L2N.Takes X W) (hg : Gl X x) (hdb : (x == ("__debug__" : Str)) = false := by decide) :
    PS X (.Raise (some (.Call (.Name x p) [] [] pos')) none pos2) (tS X n C G W (.rse c .nil)) := by
  obtain ⟨Cl, gC, q, kC, sb, ty⟩ := xt.ex
  exact PS_imp (L2N.ps_raise (cx.calm rfl) tk (pmk_zero PySem.F.excBase_ValueError q gC kC (raises_own sb ty) hg hdb)) fun D' σ H ⟨m, ρ, S, ra, re, p⟩ => p m H σ (.ref Cl) none (Le.refl m H) ra re ⟨x, Cl, [], hx, gC, rfl, .inl ⟨rfl, rfl⟩, .nil⟩
end
theorem m_len : ("len" : Str) ∈ bnames := by decide +kernel
theorem m_abs : ("abs" : Str) ∈ bnames := by decide +kernel
theorem m_min : ("min" : Str) ∈ bnames := by decide +kernel
theorem m_max : ("max" : Str) ∈ bnames := by decide +kernel
theorem m_all : ("all" : Str) ∈ bnames := by decide +kernel
theorem m_repr : ("repr" : Str) ∈ bnames := by decide +kernel
theorem m_int : ("int" : Str) ∈ bnames := by decide +kernel
theorem m_str : ("str" : Str) ∈ bnames := by decide +kernel
theorem m_list : ("list" : Str) ∈ bnames := by decide +kernel
theorem m_tuple : ("tuple" : Str) ∈ bnames := by decide +kernel
theorem m_isinstance : ("isinstance" : Str) ∈ bnames := by decide +kernel
theorem m_bool : ("bool" : Str) ∈ bnames := by decide +kernel
theorem b_len : bootBuiltins "len" = some (.builtin "len") := by decide +kernel
theorem b_abs : bootBuiltins "abs" = some (.builtin "abs") := by decide +kernel
theorem b_min : bootBuiltins "min" = some (.builtin "min") := by decide +kernel
theorem b_max : bootBuiltins "max" = some (.builtin "max") := by decide +kernel
theorem b_all : bootBuiltins "all" = some (.builtin "all") := by decide +kernel
theorem b_repr : bootBuiltins "repr" = some (.builtin "repr") := by decide +kernel
theorem b_int : bootBuiltins "int" = some (.type "int") := by decide +kernel
theorem b_str : bootBuiltins "str" = some (.type "str") := by decide +kernel
theorem b_list : bootBuiltins "list" = some (.type "list") := by decide +kernel
theorem b_tuple : bootBuiltins "tuple" = some (.type "tuple") := by decide +kernel
theorem b_isinstance : bootBuiltins "isinstance" = some (.builtin "isinstance") := by decide +kernel
theorem b_bool : bootBuiltins "bool" = some (.type "bool") := by decide +kernel
end CC
namespace CC
open PySem PySem.Spec PyProof.Rows L2
structure FnTxt (K : PySem.W.Frag) (mg : Str → Option Value) (x : Str) (st : Stmt) (ps : List Str) (kw : List (Nat × List Str × List Nat)) : Prop where
  ex : ∃ (f : Addr) (fd : FuncData), mg x = some (.ref f) ∧ (∃ y, Fun K y y st f fd) ∧ Binds K fd ps [] ∧ ∀ q ∈ kw, KB fd ps q
theorem at_zero {P : Program} {w : World} {K : PySem.W.Frag} {mg : Str → Option Value} {base : Heap} {k : Nat} {x : Str} {st : Stmt} {ps : List Str} {kw : List (Nat × List Str × List Nat)} (t : FnTxt K mg x st ps kw) (cs : List D → Sto → R D) (hz : ∀ ds S, cs ds S = .bad) : FnAt P w K mg base k x ps.length kw cs := by
  obtain ⟨f, fdd, hm, ⟨_, F⟩, hb, hkb⟩ := t.ex
  exact ⟨f, fdd, ps, hm, F.kp, rfl, hb, hkb, ⟨fun ds S h => absurd (hz ds S) h, fun A outer s H args us vs m ds S Q E _ _ _ _ _ _ _ p => by rw [hz] at p; exact p.elim⟩⟩
section
variable {K : PySem.W.Frag} {mg : Str → Option Value} {h : Heap} {w : World}
theorem fnTxt_of {x y : Str} {d : He.FnD} {st : Stmt} {ps : List Str} {kw : List (Nat × List Str × List Nat)} (X : K.In h) (G0 : h.Ns mainGlobals mg) (c1 : (He.Fa.glo x).ok K = true) (c2 : (He.Fa.keep x).ok K = true)
    (c : ∃ oc od osl kV doc pm an cdv ct, K.lookup (He.fAd K d.at_) = some ⟨oc, od, .func (PySem.W.fnOf d.name d.qual d.params d.body d.scope .none kV doc pm an cdv ct), osl⟩ ∧ PySem.W.codeIn K cdv d.qual = true)
    (hb : ∀ (kV doc pm : Value) (an : Option Addr) (cdv ct : Value) (us : List Value), us.length = ps.length → bindArgs (PySem.W.fnOf y y (defArgs st) (defBody st) (defScope st) .none kV doc pm an cdv ct) ⟨us, []⟩ = pure (ps.zip us))
    (hkb : ∀ (kV doc pm : Value) (an : Option Addr) (cdv ct : Value) q, q ∈ kw → KB (PySem.W.fnOf y y (defArgs st) (defBody st) (defScope st) .none kV doc pm an cdv ct) ps q)
    (hd : d = ⟨(x, none), y, y, defArgs st, defBody st, defScope st⟩ := by rfl) : FnTxt K mg x st ps kw := by
  subst hd
  obtain ⟨oc, od, osl, kV, doc, pm, an, cdv, ct, l, c⟩ := c
  have F := fun_mk (st := st) l c (He.keep_ok c2)
  exact ⟨_, _, He.glo_ok X G0 c1, ⟨_, F⟩, F.binds hb, fun q hq => hkb kV doc pm an cdv ct q hq⟩
theorem exTxt_of {x : Str} (X : K.In h) (G0 : h.Ns mainGlobals mg) (c1 : (He.Fa.glo x).ok K = true) (c2 : (He.Fa.exc x).ok K = true) : ExTxt K mg x := by
  obtain ⟨a, b, c, d⟩ := He.exc_ok c2
  exact ⟨_, He.glo_ok X G0 c1, a, b, c, d⟩
theorem nob_at {fa : List He.Fa} {fn : List He.FnD} (X : K.In h) (G0 : h.Ns mainGlobals mg) (c : He.SaysE fa fn K) (n : Nat) (e : ∀ i y, bnames[i]? = some y → fa[n + i]? = some (.free y)) {x : Str} (hx : x ∈ bnames) : mg x = none := by
  obtain ⟨i, hi⟩ := List.getElem?_of_mem hx
  exact He.free_ok X G0 (c.fact (n + i) (e i x hi))
end
def ExmTxt (K : PySem.W.Frag) (mg : Str → Option Value) (x y : Str) (b : Bool) : Prop := ∃ A B : Addr, mg x = some (.ref A) ∧ mg y = some (.ref B) ∧ PySem.W.exmOne K (.ref A) (.ref B) = some b
theorem exmTxt_of {K : PySem.W.Frag} {mg : Str → Option Value} {h : Heap} {x y : Str} {b : Bool} (X : K.In h) (G0 : h.Ns mainGlobals mg) (c1 : (He.Fa.glo x).ok K = true) (c2 : (He.Fa.glo y).ok K = true) (c3 : (He.Fa.exm x y b).ok K = true) : ExmTxt K mg x y b :=
  ⟨_, _, He.glo_ok X G0 c1, He.glo_ok X G0 c2, He.exm_ok c3⟩
section
variable {X : Cx} {C : CallSem} {G : Nat → Option D} {W : WX} {pos : Pos} {n : Nat}
theorem Ctx.tr {cb : Bool} (c : Ctx cb X) (pn : List (Addr × Obj)) (xe : Value → Shared → Prop) : Ctx cb (X.tr pn xe) := ⟨c.calm, c.hu, c.nd, c.g, c.nob, c.wm⟩
def CSx (K : PySem.W.Frag) (mg : Str → Option Value) (x : Str) (cs : List (Nat × Bool)) : Prop := ∃ cl : Addr, mg x = some (.ref cl) ∧ ∀ c b, cs.lookup c = some b → ∃ y A, exNames[c]? = some y ∧ mg y = some (.ref A) ∧ PySem.W.exmOne K (.ref A) (.ref cl) = some b
theorem csx_nil {K : PySem.W.Frag} {mg : Str → Option Value} {x : Str} {cl : Addr} (t : mg x = some (.ref cl)) : CSx K mg x [] := ⟨cl, t, fun _ _ h => by cases h⟩
theorem csx_cons {K : PySem.W.Frag} {mg : Str → Option Value} {x y : Str} {c : Nat} {b : Bool} {cs : List (Nat × Bool)} (hy : exNames[c]? = some y) (t : ExmTxt K mg y x b) (r : CSx K mg x cs) : CSx K mg x ((c, b) :: cs) := by
  obtain ⟨cl, h1, h2⟩ := r
  obtain ⟨A, B, t1, t2, t3⟩ := t
  rw [h1] at t2
  cases t2
  refine ⟨cl, h1, fun c' b' h => ?_⟩
  rw [List.lookup_cons] at h
  by_cases e : c' = c
  · subst e
    simp at h
    subst h
    exact ⟨y, A, hy, t1, t3⟩
  · have e' : (c' == c) = false := by simpa using e
    rw [e'] at h
    exact h2 c' b' h
end
mutual
def valK (K : PySem.W.Frag) : D → Value → Bool
  | .str x, .str y _ => decide (x = y)
  | .int x, .int y _ => decide (x = y)
  | .tup ds, .ref a => (match K.lookup a with
    | some ⟨.type c, _, .seq its _, _⟩ => decide (c = "tuple") && (decide (its.size ≤ sizeLine) && valKs K ds its.toList)
    | _ => false)
  | _, _ => false
def valKs (K : PySem.W.Frag) : List D → List Value → Bool
  | [], [] => true
  | d :: ds, u :: us => valK K d u && valKs K ds us
  | _, _ => false
end
section
variable {K : PySem.W.Frag} {mg : Str → Option Value} {w : World}
mutual
theorem valK_ok : ∀ (d : D) (u : Value), valK K d u = true → ∃ v, RelV v u ∧ ∀ m H, Rp ⟨K, w, none⟩ mg m H d v
  | .str x, u, h => by
    cases u with
    | str y t =>
      unfold valK at h
      have e := of_decide_eq_true h
      subst e
      exact ⟨.str x, ⟨t, rfl⟩, fun m H => .str x⟩
    | _ => simp [valK] at h
  | .int x, u, h => by
    cases u with
    | int y t =>
      unfold valK at h
      have e := of_decide_eq_true h
      subst e
      exact ⟨.int x, ⟨t, rfl⟩, fun m H => .int x⟩
    | _ => simp [valK] at h
  | .tup ds, u, h => by
    cases u with
    | ref a =>
      unfold valK at h
      split at h
      · rename_i c od its n osl q
        simp only [Bool.and_eq_true, decide_eq_true_eq] at h
        obtain ⟨h1, h2, h3⟩ := h
        obtain ⟨vs, r, hv⟩ := valKs_ok ds its.toList h3
        exact ⟨.ref a, rfl, fun m H => .tup (.inr ⟨_, its, n, q, congrArg Value.type h1, rfl, h2, r⟩) (hv m H)⟩
      · cases h
    | _ => simp [valK] at h
  | .non, u, h => by cases u <;> simp [valK] at h
  | .bl _, u, h => by cases u <;> simp [valK] at h
  | .loc _, u, h => by cases u <;> simp [valK] at h
  | .ty _, u, h => by cases u <;> simp [valK] at h
  | .fn _, u, h => by cases u <;> simp [valK] at h
theorem valKs_ok : ∀ (ds : List D) (us : List Value), valKs K ds us = true → ∃ vs, Vals vs us ∧ ∀ m H, Rps ⟨K, w, none⟩ mg m H ds vs
  | [], [], _ => ⟨[], .nil, fun _ _ => .nil⟩
  | [], _ :: _, h => by simp [valKs] at h
  | _ :: _, [], h => by simp [valKs] at h
  | d :: ds, u :: us, h => by
    unfold valKs at h
    simp only [Bool.and_eq_true] at h
    obtain ⟨v, r, hv⟩ := valK_ok d u h.1
    obtain ⟨vs, rs, hvs⟩ := valKs_ok ds us h.2
    exact ⟨v :: vs, .cons r rs, fun m H => .cons (hv m H) (hvs m H)⟩
end
end
def ciK (K : PySem.W.Frag) (A : Addr) : Bool := decide (PySem.W.findIn K (.ref A) "__getattribute__" = some (some (.builtin "BaseException.__getattribute__"))) && (decide (PySem.W.findIn K (.ref A) "__getattr__" = some none) &&
  (decide (PySem.W.subIn K (.ref A) (.type "BaseException") = some true) && (PySem.W.hasDictIn K A && (decide (PySem.W.findIn K (.ref A) "__class__" = some (some (.builtin "object.__class__"))) &&
  (decide (PySem.W.specialIn K (.builtin "object.__class__") "__get__" = some (some (.builtin "getset_descriptor.__get__"))) && (decide (PySem.W.takesIn K (.builtin "object.__class__") = some true) && decide (PySem.W.mroIn K A (.type "object") = some true)))))))
def clsK (K : PySem.W.Frag) (c : Nat) : Bool := match exNames[c]? with
  | none => true
  | some x => match PySem.W.nsIn K mainGlobals x with
    | some none => true
    | some (some (.ref A)) => ciK K A && (decide (PySem.W.kitOne K (.ref A) (.type "ValueError") = some true) && (List.range 11).all fun k => match exNames[k]? with
      | none => true
      | some y => match PySem.W.nsIn K mainGlobals y with
        | some none => true
        | some (some (.ref B)) => decide (PySem.W.kitOne K (.ref A) (.ref B) = some (subX c k))
        | _ => false)
    | _ => false
def xAll (K : PySem.W.Frag) : Bool := (List.range 11).all fun c => clsK K c
def conK (K : PySem.W.Frag) (q : Str × D) : Bool := match PySem.W.nsIn K mainGlobals q.1 with
  | some (some u) => valK K q.2 u
  | _ => false
theorem conK_ok {K : PySem.W.Frag} {mg : Str → Option Value} {h : Heap} {w : World} (X : K.In h) (G0 : h.Ns mainGlobals mg) {x : Str} {d : D} (c : conK K (x, d) = true) : ∃ u v, mg x = some u ∧ RelV v u ∧ ∀ m H, Rp ⟨K, w, none⟩ mg m H d v := by
  unfold conK at c
  split at c
  · rename_i u q
    obtain ⟨v, r, hv⟩ := valK_ok d u c
    exact ⟨u, v, PySem.W.mg_of X G0 q, r, hv⟩
  · cases c
def tabK (K : PySem.W.Frag) (q : Str × List (Str × D)) : Bool := q.2.all fun r => match PySem.W.nsIn K (He.ga K q.1) r.1 with
  | some (some u) => valK K r.2 u
  | _ => false
def oexB (K : PySem.W.Frag) (C : Addr) : Bool := (match K.lookup C with
  | some ⟨.type "type", _, .cls cd, sl⟩ => (match cd.mro, sl.toList with
    | .ref C' :: bm, [_, _, _, _, some (.builtin n), _] => decide (C' = C) && (decide (n = "ValueError.__new__") && (!cd.hasDel && (cd.hasDict && PySem.HandSPX.refsVE bm)))
    | _, _ => false)
  | _ => false) && (decide (PySem.W.findIn K (.ref C) "__setattr__" = some (some (.builtin "object.__setattr__"))) && (decide (PySem.W.subIn K (.ref C) (.type "BaseException") = some true) && (decide (PySem.W.typeIn K (.ref C) = some (.type "type")) && PySem.W.keepIn K (.ref C))))
def conX (K : PySem.W.Frag) (q : Str × D) : Bool := match q.2 with
  | .cls 0 => xAll K
  | .cls (_ + 1) => oexB K (He.ga K q.1) && xfB K (He.ga K q.1)
  | .ty _ => match PySem.W.nsIn K cStatics "sys.int_max_str_digits" with
    | some none => true
    | _ => false
  | _ => conK K q
theorem conS {K : PySem.W.Frag} {q : Str × D} (c : conX K q = true) (h : (match q.2 with
  | .cls _ => false
  | .ty _ => false
  | _ => true) = true := by rfl) : conK K q = true := by
  obtain ⟨x, d⟩ := q
  cases d with
  | cls _ => cases h
  | ty _ => cases h
  | _ => exact c
abbrev AlC : Type := He.Al × (List (Option (List (Option (Str × Int)))) × Bool)
def exK (cs : List (Str × D)) (ts : List (Str × List (Str × D))) (K : PySem.W.Frag) : Bool := (cs.all fun q => conX K q) && ts.all fun q => tabK K q
def obsC (fa : List He.Fa) (fn : List He.FnD) (cs : List (Str × D)) (ts : List (Str × List (Str × D))) (K : PySem.W.Frag) : AlC := (He.obsE fa fn K, (ts.map fun t => He.dicW K (He.ga K t.1), exK cs ts K))
def valC (fn : List He.FnD) (ts : List (Str × List (Str × D))) (w : World) : AlC := (He.valE fn, (ts.map fun t => some (He.keysIn w.params (t.2.map (·.1))), true))
def SaysC (fa : List He.Fa) (fn : List He.FnD) (cs : List (Str × D)) (ts : List (Str × List (Str × D))) (w : World) (K : PySem.W.Frag) : Prop := obsC fa fn cs ts K = valC fn ts w
def frontG (g : Addr → Option Obj) : Nat → List Addr → List Addr
  | 0, f => f
  | n + 1, f => f ++ frontG g n (f.flatMap fun a => match g a with
    | some o => He.refsO o
    | none => [])
def extraA (cs : List (Str × D)) : List Addr := if (cs.any fun q => match q.2 with
  | .ty _ => true
  | _ => false) = true then [cStatics] else []
def obsCG (n : Nat) (fa : List He.Fa) (fn : List He.FnD) (cs : List (Str × D)) (ts : List (Str × List (Str × D))) (g : Addr → Option Obj) : AlC := obsC fa fn cs ts (He.frG g (frontG g n [mainGlobals] ++ extraA cs))
def hookC (n : Nat) (fa : List He.Fa) (fn : List He.FnD) (cs : List (Str × D)) (ts : List (Str × List (Str × D))) : PySem.W.Hook where
  α := AlC
  obs := fun s => obsCG n fa fn cs ts s.heap.get?
  val := fun w => valC fn ts w
  says := fun w h => ∃ K : PySem.W.Frag, K.In h ∧ SaysC fa fn cs ts w K
  of := fun _ _ e => ⟨_, He.frG_in, e⟩
  keeps := fun _ _ _ ⟨K, hK, c⟩ k => ⟨K, PySem.W.Frag.In.keeps hK k, c⟩
theorem obsCG_eq {n : Nat} {fa : List He.Fa} {fn : List He.FnD} {cs : List (Str × D)} {ts : List (Str × List (Str × D))} {g : Addr → Option Obj} {s : Shared} (h : ∀ a, g a = s.heap.get? a) : obsCG n fa fn cs ts g = (hookC n fa fn cs ts).obs s := by
  have e : g = s.heap.get? := funext h
  rw [e] <;> rfl
section
variable {fa : List He.Fa} {fn : List He.FnD} {cs : List (Str × D)} {ts : List (Str × List (Str × D))} {w : World} {K : PySem.W.Frag}
theorem SaysC.e (c : SaysC fa fn cs ts w K) : He.SaysE fa fn K := congrArg (fun z : AlC => z.1) c
theorem SaysC.con (c : SaysC fa fn cs ts w K) (i : Nat) {q : Str × D} (h : cs[i]? = some q := by rfl) : conX K q = true := by
  have e : exK cs ts K = true := congrArg (fun z : AlC => z.2.2) c
  unfold exK at e
  simp only [Bool.and_eq_true] at e
  exact List.all_eq_true.mp e.1 q (List.mem_of_getElem? h)
theorem SaysC.tab (c : SaysC fa fn cs ts w K) (i : Nat) {t : Str × List (Str × D)} (h : ts[i]? = some t := by rfl) : ∃ es n, KDict K w (He.ga K t.1) es n := by
  have e : (ts.map fun t => He.dicW K (He.ga K t.1)) = ts.map fun t => some (He.keysIn w.params (t.2.map (·.1))) := congrArg (fun z : AlC => z.2.1) c
  have e2 : (ts.map fun t => He.dicW K (He.ga K t.1))[i]? = (ts.map fun t => some (He.keysIn w.params (t.2.map (·.1))))[i]? := by rw [e]
  rw [List.getElem?_map, List.getElem?_map, h] at e2
  exact He.dicW_ok (Option.some.inj e2)
end
end CC
namespace CC
open PySem PySem.Spec PyProof.Rows L2
theorem xcO_ok {P : Program} {w : World} {H : Hp} {h : Heap} {a : Addr} {cls : Value} {d : Option Addr} {oe : Obj} {vs : Array Value} (e : h.get? a = some oe) (z : L2N.Zn cls d oe) (dd : oe.data = .fields vs) : ObjOk P w H h a (.frz oe (XcO cls d a)) :=
  ⟨e, ⟨oe, vs, e, z, dd⟩, ⟨oe, e⟩, fun _ _ ⟨o, v, q, r⟩ k => ⟨o, v, k o q, r⟩⟩
theorem xcO_hot {H : Hp} {a : Addr} {cls : Value} {d : Option Addr} {oe : Obj} {vs : Array Value} (z : L2N.Zn cls d oe) (dd : oe.data = .fields vs) : HotH (some a) (upd H a (.frz oe (XcO cls d a))) := fun b e => by
  cases e
  exact ⟨oe, vs, _, upd_same, dd, z.2.2 vs dd⟩
section
variable {X : Cx} {pins : List (Addr × Obj)} {σ : L2.St} {H : Hp} {s : Shared}
theorem adopt {a : Addr} {o : HO} {oe : Obj} {vs : Array Value} (I : Inv X pins σ H s) (ha : s.heap.get? a = some oe) (hd : oe.data = .fields vs) (na : H a = none) (n0 : X.s_0.heap.get? a = none) (nL : a ≠ X.env.locals) (np : ∀ p ∈ X.pn ++ pins, p.1 ≠ a) (hok : ObjOk X.prog X.w (upd H a o) s.heap a o) : Inv X pins σ (upd H a o) s := by
  have ne0 : ∀ b u, X.s_0.heap.get? b = some u → b ≠ a := fun b u e z => by rw [z, n0] at e; cases e
  have neH : ∀ b u, H b = some u → b ≠ a := fun b u e z => by rw [z, na] at e; cases e
  refine ⟨I.ok, I.os, I.bare, ⟨I.base.keep, I.base.slot, fun b u e n hx => ?_, I.base.there, fun b xs e => ?_, fun b u xs e => ?_, fun b ps e => ?_⟩, I.loc, I.cell, ?_, fun x c e => ?_, fun p hp => ?_, fun b u e => ?_, I.len⟩
  · rw [upd_ne (ne0 b u e)]
    exact I.base.free b u e n hx
  · have q := I.base.tups b xs e
    rw [upd_ne (neH b _ q)]
    exact q
  · have q := I.base.frzs b u xs e
    rw [upd_ne (neH b _ q)]
    exact q
  · obtain ⟨m, q⟩ := I.base.tbls b ps e
    exact ⟨m, by rw [upd_ne (neH b _ q)]; exact q⟩
  · rw [upd_ne (Ne.symm nL)]
    exact I.free
  · have hc : c ≠ a := fun z => by
      obtain ⟨v, oc, ho, hdc⟩ := I.cell x c e
      rw [z, ha] at ho
      cases ho
      rw [hd] at hdc
      cases hdc
    rw [upd_ne hc]
    exact I.freeC x c e
  · obtain ⟨e, n, r⟩ := I.pin p hp
    exact ⟨e, by rw [upd_ne (np p hp)]; exact n, r⟩
  · by_cases hb : b = a
    · subst hb
      rw [upd_same] at e
      cases e
      exact hok
    · rw [upd_ne hb] at e
      exact (I.hok b u e).stay (fun c v _ q => q) (fun c q => by rw [upd_ne (ne_of_none q na)]; exact q) fun c xs q => by rw [upd_ne (ne_of_none q na)]; exact q
end
structure Caught (X : Cx) (pins : List (Addr × Obj)) (σ : L2.St) (H : Hp) (a : Addr) (cls : Value) (d : Option Addr) (B : Heap) (sI s : Shared) : Prop where
  I : Inv X pins σ H sI
  nb : ∀ b o, sI.heap.get? b = some o → b ∉ frs X.stack → B.get? b = some o
  up : sI.heap.UpToSlots s.heap
  fl : HandSPX.FlyingZ B (X.env :: X.outer) a (L2N.Zn cls d) s.heap
  na : H a = none
  os : s.os = sI.os
  ag : AllBare s.gens
section
variable {X : Cx} {pins : List (Addr × Obj)} {σ : L2.St} {H : Hp} {sI s : Shared} {a : Addr} {cls : Value} {d : Option Addr} {B : Heap}
theorem Caught.inv (c : Caught X pins σ H a cls d B sI s) : Inv X pins σ H s := c.I.landed c.nb c.fl.1 c.up c.os c.ag
theorem Caught.more (c : Caught X pins σ H a cls d B sI s) {h : Heap} (fl : HandSPX.FlyingZ B (X.env :: X.outer) a (L2N.Zn cls d) h) (up : s.heap.UpToSlots h) : Caught X pins σ H a cls d B sI { s with heap := h } := ⟨c.I, c.nb, c.up.trans up, fl, c.na, c.os, c.ag⟩
theorem Caught.fr (c : Caught X pins σ H a cls d B sI s) : a ∉ frs (X.env :: X.outer) := fun hm => by
  obtain ⟨oe, vs, he, _, hd⟩ := c.fl.there
  obtain ⟨_, o', e', hnf⟩ := c.fl.2.2.1.mem hm
  rw [he] at e'
  cases e'
  exact hnf _ hd
theorem Caught.old (c : Caught X pins σ H a cls d B sI s) (hs : X.stack = X.env :: X.outer) : sI.heap.get? a = none := by
  cases e : sI.heap.get? a with
  | none => rfl
  | some o =>
    have z := c.nb a o e (by rw [hs]; exact c.fr)
    rw [c.fl.2.1] at z
    cases z
theorem Caught.n0 (c : Caught X pins σ H a cls d B sI s) (hs : X.stack = X.env :: X.outer) (hx : X.ex = []) : X.s_0.heap.get? a = none := by
  cases e : X.s_0.heap.get? a with
  | none => rfl
  | some o =>
    obtain ⟨o', z⟩ := c.I.base.there a o e (by rw [hx]; exact fun z => nomatch z)
    rw [c.old hs] at z
    cases z
theorem Caught.np (c : Caught X pins σ H a cls d B sI s) (hs : X.stack = X.env :: X.outer) : ∀ p ∈ X.pn ++ pins, p.1 ≠ a := fun p hp z => by
  have e := (c.I.pin p hp).1
  rw [z, c.old hs] at e
  cases e
theorem Caught.nL (c : Caught X pins σ H a cls d B sI s) (hf : X.env.frame = some X.env.locals) : a ≠ X.env.locals := fun z => c.fr (List.mem_filterMap.mpr ⟨X.env, List.mem_cons_self, by rw [hf, z]⟩)
theorem Caught.adopted (c : Caught X pins σ H a cls d B sI s) (hs : X.stack = X.env :: X.outer) (hf : X.env.frame = some X.env.locals) (hx : X.ex = []) : ∃ oe vs, L2N.Zn cls d oe ∧ oe.data = .fields vs ∧ Inv X pins σ (upd H a (.frz oe (XcO cls d a))) s := by
  obtain ⟨oe, vs, he, hz, hd⟩ := c.fl.there
  exact ⟨oe, vs, hz, hd, adopt c.inv he hd c.na (c.n0 hs hx) (c.nL hf) (c.np hs) (xcO_ok he hz hd)⟩
end
section
variable {X : Cx} {pins : List (Addr × Obj)} {σ : L2.St} {H : Hp} {sI s : Shared} {a : Addr} {cls : Value} {d : Option Addr} {B : Heap}
theorem toSuite (I : Inv X pins σ H s) (a : Addr) : Inv (X.suite a (X.pn ++ pins)) [] σ H s :=
  ⟨I.ok.suite _ _, I.os, I.bare, I.base, I.loc, I.cell, I.free, I.freeC, fun p hp => I.pin p (by rw [List.append_nil] at hp; exact hp), I.hok, I.len⟩
theorem ofSuite {pn' : List (Addr × Obj)} (I : Inv (X.suite a (X.pn ++ pins)) pn' σ H s) (ok : X.Ok) : Inv X pins σ H s :=
  ⟨ok, I.os, I.bare, I.base, I.loc, I.cell, I.free, I.freeC, fun p hp => I.pin p (List.mem_append_left _ hp), I.hok, I.len⟩
variable {x n : Str} {c : Value} {i : Nat} {suite : List Stmt} {b₀ : Stmt} {np pos' : Pos} {rest : List ExceptHandler} {D : Ends} {b : Bool} {t : TS}
def unE (D : Ends) (i : Nat) : Ends := { nx := fun σ' H' => D.nx (σ'.set i none) H', rt := D.rt, bk := fun σ' H' => D.bk (σ'.set i none) H', ct := fun σ' H' => D.ct (σ'.set i none) H' }
theorem hd_only (hs : X.stack = X.env :: X.outer) (hf : X.env.frame = some X.env.locals) (hx : X.ex = []) (hc : Names X x c) (C : Caught X pins σ H a cls d B sI s) (hb : PySem.W.exmOne X.K cls c = some b)
    (yes : b = true → PSs (X.suite a (X.pn ++ pins)) (b₀ :: suite) t ∧ ∀ oe vs, L2N.Zn cls d oe → oe.data = .fields vs → t D σ (upd H a (.frz oe (XcO cls d a))))
    (no : b = false → wpAny (model X.prog X.w) X.A (handleBy (.ref a) X.env rest) (SP X pins D) X.xe s) :
    wpAny (model X.prog X.w) X.A (handleBy (.ref a) X.env (.ExceptHandler (some (.Name x np)) none (b₀ :: suite) pos' :: rest)) (SP X pins D) X.xe s := by
  have J := C.inv
  obtain ⟨oe, vs, he, hz, hd⟩ := C.fl.there
  refine wpAny_handleBy_cons (codeAny_handlers_test ?_) (by intro q; cases q)
  have LT : PySem.W.Looks (model X.prog X.w) s.heap (typeOf (.ref a)) cls := fun A Q E s k q => wpAny_typeOf_ref (k _ _ he) (by rw [hz.1]; exact q)
  have LM := PySem.W.exm_one (M := model X.prog X.w) J.kIn LT hb
  have test : ∀ {Q : Value → Shared → Prop} {E : Value → Shared → Prop}, Q c s → wpAny (model X.prog X.w) (X.A.mark (some (.ref a))) (eval (.Name x np) X.env) Q E s := fun {Q E} q => by
    obtain ⟨hg, hdbg, hm | ⟨hm, hv, hnn⟩⟩ := hc
    · exact ld_glob (X := X.suite a (X.pn ++ pins)) (toSuite J a) hg hm q hdbg
    · exact ld_blt (X := X.suite a (X.pn ++ pins)) (toSuite J a) hg hm hv q hnn hdbg
  refine test (LM.here ?_)
  cases b with
  | false => exact no rfl
  | true =>
    obtain ⟨p, w⟩ := yes rfl
    refine codeAny_handlers_suite ?_
    refine HandSPX.lands_againZ C.fl fun h4 fl4 up4 => ?_
    have C4 := C.more fl4 up4
    obtain ⟨oe5, vs5, hz5, hd5, J4⟩ := C4.adopted hs hf hx
    refine wpAny_mono (p.run [] _ _ _ _ (toSuite J4 a) (w oe5 vs5 hz5 hd5)) (fun f s6 hsp => ?_) (fun _ _ z => False.elim z)
    cases f with
    | ret u =>
      obtain ⟨v6, σ6, H6, S6, r6, q6⟩ := hsp
      exact ⟨_, _, _, ofSuite S6 C.I.ok, r6, q6⟩
    | next | brk | cont =>
      obtain ⟨σ6, H6, S6, q6⟩ := hsp
      exact ⟨_, _, ofSuite S6 C.I.ok, q6⟩
theorem hd_nil {W : WX} (hs : X.stack = X.env :: X.outer) (hf : X.env.frame = some X.env.locals) (tk : L2N.Takes X W) (C : Caught X pins σ H a cls d B sI s) (w : W cls d σ H) :
    wpAny (model X.prog X.w) X.A (handleBy (.ref a) X.env []) (SP X pins D) X.xe s := by
  refine wpAny_handleBy_nil ?_
  obtain ⟨k1, k2, k3, oe, vs, T, oT, ts', he, hz, hd, h1, hr⟩ := id C.fl
  unfold PySem.passOn
  refine wpAny_bind (wpAny_field he hd h1 ?_)
  rw [if_neg (show ¬ ((Value.ref T == Value.none) = true) from by simp)]
  have fin : wpAny (model X.prog X.w) X.A (setFlight (.ref a) X.env.frame) (fun _ s4 => wpAny (model X.prog X.w) X.A (throw (.ref a) : Sem Flow) (SP X pins D) X.xe s4) X.xe s := by
    rw [hf]
    refine HandSPX.setFlight_upZ C.fl fun h4 hh4 up4 => wpAny_throw (tk _ _ ?_)
    exact ⟨a, B, sI, pins, σ, H, cls, d, rfl, C.I, C.nb, C.up.trans up4, .inr (.inr (by rw [hs]; exact hh4)), C.na, C.os, C.ag, w⟩
  first
    | exact wpAny_bind (wpAny_pure (wpAny_bind fin))
    | exact wpAny_bind fin
end
theorem takes0 {X : Cx} : L2N.Takes X (fun _ _ _ _ => False) := fun _ _ ⟨_, _, _, _, _, _, _, _, _, _, _, _, _, _, _, _, w⟩ => w.elim
abbrev Wno : WX := fun _ _ _ _ => False
section
variable {K : KW} {mg : Str → Option Value} {m : Mp} {H : Hp} {W : WX} {D : Ends} {r : Rs}
theorem PostS.suite {i : Nat} (h : PostS K mg W m H (suiteR (some i) r) D) : PostS K mg Wno m H r (unE D i) := by
  cases r with
  | nx ρ S => exact fun m' H' σ l ra re => h m' H' _ l ra (re.clear i)
  | bk ρ S => exact fun m' H' σ l ra re => h m' H' _ l ra (re.clear i)
  | ct ρ S => exact fun m' H' σ l ra re => h m' H' _ l ra (re.clear i)
  | rt d S => exact h
  | exc c p ρ S => exact h.elim
  | bad => exact h
theorem PostS.kw {f : PySem.W.Frag} {w : World} {x y : Option Addr} {mg : Str → Option Value} {m : Mp} {H : Hp} {W : WX} {D : Ends} {r : Rs} (hx : HotH x H) (h : PostS ⟨f, w, x⟩ mg W m H r D) : PostS ⟨f, w, y⟩ mg W m H r D := by
  cases r with
  | nx ρ S => exact fun m' H' σ l ra re => h m' H' _ l (ra.kw (hx.mono l.fz)) re.kw
  | bk ρ S => exact fun m' H' σ l ra re => h m' H' _ l (ra.kw (hx.mono l.fz)) re.kw
  | ct ρ S => exact fun m' H' σ l ra re => h m' H' _ l (ra.kw (hx.mono l.fz)) re.kw
  | rt d S => exact fun m' H' v l ra r => h m' H' _ l (ra.kw (hx.mono l.fz)) r.kw
  | exc c p ρ S => exact fun m' H' σ cls dd l ra re rx => h m' H' _ _ _ l (ra.kw (hx.mono l.fz)) re.kw rx.kw
  | bad => exact h.elim
theorem PostS.suite0 (h : PostS K mg W m H (suiteR none r) D) : PostS K mg Wno m H r D := by
  cases r with
  | exc c p ρ S => exact h.elim
  | _ => exact h
end
section
variable {X : Cx} {C : CallSem} {G : Nat → Option D} {W : WX} {pos : Pos} {n : Nat}
def HD (X : Cx) (W : WX) (hds : List ExceptHandler) (h : Nat → List D → Env → Sto → Rs) : Prop :=
  ∀ {pins : List (Addr × Obj)} {σ : L2.St} {H : Hp} {sI s : Shared} {a : Addr} {cls : Value} {d : Option Addr} {B : Heap} {E : Ends} {m : Mp} {ρ : Env} {S : Sto} {c : Nat} {q : List D},
    Caught X pins σ H a cls d B sI s → RelA X.kw X.mg m H S → RelE X.kw X.mg m H σ ρ → RpX X.kw X.mg m H c q cls d → PostS X.kw X.mg W m H (h c q ρ S) E →
    wpAny (model X.prog X.w) X.A (handleBy (.ref a) X.env hds) (SP X pins E) X.xe s
theorem hD_nil (hs : X.stack = X.env :: X.outer) (hf : X.env.frame = some X.env.locals) (tk : L2N.Takes X W) : HD X W [] (fun c q ρ S => .exc c q ρ S) :=
  fun C ra re rx p => hd_nil hs hf tk C (p _ _ _ _ _ (Le.refl _ _) ra re rx)
theorem hD_only {x : Str} {np pos' : Pos} {b₀ : Stmt} {suite : List Stmt} {rest : List ExceptHandler} {h : Nat → List D → Env → Sto → Rs} {cs : List (Nat × Bool)} {A2 : Sx} {k : Nat}
    (hs : X.stack = X.env :: X.outer) (hf : X.env.frame = some X.env.locals) (hx : X.ex = []) (hg : Gl X x) (hc : CSx X.K X.mg x cs)
    (hsu : ∀ (a : Addr) (pn : List (Addr × Obj)), PSs (X.suite a pn) (b₀ :: suite) (tS (X.suite a pn) k C G Wno A2)) (hr : HD X W rest h) (hdb : (x == ("__debug__" : Str)) = false := by decide) :
    HD X W (.ExceptHandler (some (.Name x np)) none (b₀ :: suite) pos' :: rest) (fun c q ρ S => match cs.lookup c with
      | some true => suiteR none (run k C G A2 ρ S)
      | some false => h c q ρ S
      | none => .bad) := by
  intro pins σ H sI s a cls d B E m ρ S c q Cg ra re rx p
  obtain ⟨cl, hm, hcs⟩ := hc
  have rx0 := rx
  obtain ⟨y, A, vs, hy, hA, e1, hf', hs'⟩ := rx
  cases hl : cs.lookup c with
  | none => simp only [hl] at p; exact p.elim
  | some t =>
    obtain ⟨y', A', hy', hA', he⟩ := hcs c t hl
    rw [hy] at hy'
    cases hy'
    rw [hA] at hA'
    cases hA'
    refine hd_only (c := .ref cl) (b := t) (t := tS (X.suite a (X.pn ++ pins)) k C G Wno A2) hs hf hx ⟨hg, hdb, .inl hm⟩ Cg (by rw [e1]; exact he) (fun ht => ?_) (fun ht => ?_)
    · subst ht
      simp only [hl] at p
      exact ⟨hsu a (X.pn ++ pins), fun oe vs5 hz5 hd5 => ⟨m, ρ, S, RelA.kw (ra.new Cg.na) (xcO_hot hz5 hd5), RelE.kw (re.mono (Le.new Cg.na)), PostS.kw (ra.hot.mono (Le.new (m := m) Cg.na).fz) ((PostS.suite0 p).move (Le.new Cg.na))⟩⟩
    · subst ht
      simp only [hl] at p
      exact hr Cg ra re rx0 p
def wHD (X : Cx) (W : WX) (h : Nat → List D → Env → Sto → Rs) (E : Ends) : WX := fun cls d σ H => ∃ m ρ S c q, RelA X.kw X.mg m H S ∧ RelE X.kw X.mg m H σ ρ ∧ RpX X.kw X.mg m H c q cls d ∧ PostS X.kw X.mg W m H (h c q ρ S) E
theorem ds_tryN {body : List Stmt} {h₀ : ExceptHandler} {hds : List ExceptHandler} {h : Nat → List D → Env → Sto → Rs} {A1 T : Sx} (hs : X.stack = X.env :: X.outer) (hf : X.env.frame = some X.env.locals)
    (hH : HD X W (h₀ :: hds) h)
    (hb : ∀ (W' : WX) (pn : List (Addr × Obj)) (xe : Value → Shared → Prop), L2N.Takes (X.tr pn xe) W' → PassesOwn (model X.prog X.w) X.A X.env xe → PSs (X.tr pn xe) body (tS (X.tr pn xe) n C G W' A1))
    (eq : ∀ ρ S, run n C G T ρ S = match run n C G A1 ρ S with
      | .exc c q ρ1 S1 => h c q ρ1 S1
      | r => r) : PS X (.Try body (h₀ :: hds) [] [] pos) (tS X n C G W T) := by
  refine ⟨fun pins s σ H E I hh => ?_⟩
  obtain ⟨m, ρ, S, ra, re, p⟩ := hh
  rw [eq] at p
  have ok := I.ok
  have hfr : X.A.frames = some (X.env :: X.outer) := by rw [ok.frames, hs]
  have p1 : PostS X.kw X.mg (wHD X W h E) m H (run n C G A1 ρ S) E := by
    cases q : run n C G A1 ρ S with
    | exc c pl ρ1 S1 =>
      rw [q] at p
      exact fun m' H' σ' cls dd l ra' re' rx => ⟨m', ρ1, S1, c, pl, ra', re', rx, PostS.move l p⟩
    | nx _ _ => rw [q] at p; exact p
    | rt _ _ => rw [q] at p; exact p
    | bk _ _ => rw [q] at p; exact p
    | ct _ _ => rw [q] at p; exact p
    | bad => rw [q] at p; exact p
  refine wpAny_Try_except ?_
  refine wpAny_mono ((hb (wHD X W h E) (X.pn ++ pins) (fun e s₁ => wpAny (model X.prog X.w) X.A (noteFrame e X.env) (fun _ s₂ => wpAny (model X.prog X.w) X.A (setFlight e none) (fun _ s₃ =>
    wpAny (model X.prog X.w) X.A (handleBy e X.env (h₀ :: hds)) (SP X pins E) X.xe s₃) X.xe s₂) X.xe s₁) (fun u s' xx => ?_) PassesOwn.looking).run [] s σ H E (I.toTry _) ⟨m, ρ, S, ra, re, p1⟩) (fun f s1 hsp => ?_) (fun e s1 he => he)
  · obtain ⟨a, B, sI, pins', σ', H', cls, d, rfl, J', nb, up, sky, na, os, ag, m', ρ', S', c, q, ra', re', rx, p'⟩ := xx
    have J : Inv X pins σ' H' sI := J'.ofTry ok
    have sky' : Sky B (X.env :: X.outer) a (L2N.Zn cls d) X.env.locals s'.heap := by rw [← hs]; exact sky
    show wpAny (model X.prog X.w) X.A (noteFrame (.ref a) X.env) _ _ _
    refine L2N.Sky.land L2N.Zn.steady hfr hf sky' fun h3 fl3 up3 => ?_
    exact hH (s := { s' with heap := h3 }) ⟨J, nb, up.trans up3, fl3, na, os, ag⟩ ra' re' rx p'
  · cases f with
    | next =>
      obtain ⟨σ', H', J', q⟩ := hsp
      exact wpAny_execs_nil ⟨σ', H', J'.ofTry ok, q⟩
    | ret u =>
      obtain ⟨v, σ', H', J', r, q⟩ := hsp
      exact ⟨v, σ', H', J'.ofTry ok, r, q⟩
    | brk | cont =>
      obtain ⟨σ', H', J', q⟩ := hsp
      exact ⟨σ', H', J'.ofTry ok, q⟩
end
end CC
namespace CC
open PySem PySem.Spec PyProof.Rows L2
theorem Ctx.suite {X : Cx} {cb : Bool} (c : Ctx cb X) (a : Addr) (pn : List (Addr × Obj)) : Ctx false (X.suite a pn) := ⟨fun z => Bool.noConfusion z, c.hu, c.nd, c.g, c.nob, .inr ⟨a, rfl⟩⟩
theorem tryN2 {n : Nat} {C : CallSem} {G : Nat → Option D} {A B1 B2 : Sx} {o1 o2 : Option Nat} {c1 c2 : List (Nat × Bool)} {ρ : Env} {S : Sto} :
    run n C G (.tryA (.tryA A o1 c1 B1) o2 c2 B2) ρ S = match run n C G A ρ S with
      | .exc c q ρ1 S1 => match c1.lookup c with
        | some true => suiteR o1 (run n C G B1 (asE o1 (.exn c q) ρ1) S1)
        | some false => (match c2.lookup c with
          | some true => suiteR o2 (run n C G B2 (asE o2 (.exn c q) ρ1) S1)
          | some false => .exc c q ρ1 S1
          | none => .bad)
        | none => .bad
      | r => r := by
  show (match (match run n C G A ρ S with
    | .exc c' p ρ1 S1 => match c1.lookup c' with
      | some true => suiteR o1 (run n C G B1 (asE o1 (.exn c' p) ρ1) S1)
      | some false => .exc c' p ρ1 S1
      | none => .bad
    | r => r) with
    | .exc c' p ρ1 S1 => match c2.lookup c' with
      | some true => suiteR o2 (run n C G B2 (asE o2 (.exn c' p) ρ1) S1)
      | some false => .exc c' p ρ1 S1
      | none => .bad
    | r => r) = _
  cases run n C G A ρ S with
  | exc c q ρ1 S1 =>
    cases h : c1.lookup c with
    | none => simp only [h]
    | some t =>
      cases t with
      | false => simp only [h]
      | true =>
        simp only [h]
        cases run n C G B1 (asE o1 (.exn c q) ρ1) S1 <;> rfl
  | _ => rfl
theorem GOk.kw {f : PySem.W.Frag} {w : World} {x y : Option Addr} {mg : Str → Option Value} {gn : List Str} {G : Nat → Option D} (h : GOk ⟨f, w, x⟩ mg gn G) : GOk ⟨f, w, y⟩ mg gn G := fun i z d h1 h2 => by
  obtain ⟨u, v, e1, e2, e3⟩ := h i z d h1 h2
  exact ⟨u, v, e1, e2, fun m H => (e3 m H).kw⟩
end CC
namespace CC
open PySem PySem.Spec PyProof.Rows L2
def WarmAt (A : Around) (h : Heap) : Prop := A.handled = none ∨ ∃ x, HotX.HotAt A x h
theorem WarmAt.mono {A : Around} {h h' : Heap} (w : WarmAt A h) (k : ∀ (b : Addr) (o : Obj) (vs : Array Value), h.get? b = some o → o.data = .fields vs → vs[2]? = some .none → h'.get? b = some o) : WarmAt A h' := by
  rcases w with w | ⟨x, e, o, vs, g, d, c⟩
  · exact .inl w
  · exact .inr ⟨x, e, o, vs, k x o vs g d c, d, c⟩
section
variable {prog : Program} {w : World} {A : Around} {E : Value → Shared → Prop} {s : Shared}
theorem WarmAt.iter {it : Addr} {o : Obj} {v1 v2 : Value} {h h' : Heap} (wm : WarmAt A h) (e : h.get? it = some o) (d : o.data = .fields #[v1, v2]) (k : ∀ b u, b ≠ it → h.get? b = some u → h'.get? b = some u) : WarmAt A h' :=
  wm.mono fun b u vs g gd c => k b u (fun z => by
    subst z
    rw [e] at g
    cases g
    rw [d] at gd
    cases gd
    cases c) g
end
end CC
namespace CC
open PySem PySem.Spec PyProof.Rows L2
section
variable {X : Cx} {C : CallSem} {G : Nat → Option D} {W : WX}
theorem RelE.put {K : KW} {mg : Str → Option Value} {m : Mp} {H : Hp} {σ : L2.St} {ρ : Env} {i : Nat} {v : V} {d : D} (re : RelE K mg m H σ ρ) (e : σ[i]? = some (some v)) (r : Rp K mg m H d v) : RelE K mg m H σ (ρ.set i (some d)) := by
  refine ⟨by rw [List.length_set, re.len], fun j d' h => ?_⟩
  by_cases hij : i = j
  · subst hij
    by_cases hl : i < ρ.length
    · rw [List.getElem?_set_self hl] at h
      cases h
      exact ⟨v, e, r⟩
    · rw [List.getElem?_eq_none (by simpa using hl)] at h
      cases h
  · rw [List.getElem?_set_ne hij] at h
    exact re.at_ j d' h
theorem RelE.take {K : KW} {mg : Str → Option Value} {m : Mp} {H : Hp} {σ : L2.St} {ρ : Env} {k : Nat} (re : RelE K mg m H σ ρ) (h : envLt k ρ = true) : RelE K mg (m.take k) H σ ρ := by
  refine ⟨re.len, fun j d e => ?_⟩
  obtain ⟨v, h1, h2⟩ := re.at_ j d e
  have := List.all_eq_true.mp h _ (List.mem_of_getElem? e)
  exact ⟨v, h1, h2.take k this⟩
theorem ds_fz {st : Stmt} {n i : Nat} {B : Sx} (h : PS X st (tS X n C G W B)) : PS X st (tS X n C G W (.fz i B)) := by
  refine ⟨fun pins s σ H D' I ⟨m, ρ, S, ra, re, p⟩ => ?_⟩
  have p0 : PostS X.kw X.mg W m H (match run n C G B ρ S with
    | .nx ρ1 S1 => fzE i S ρ1 S1
    | r => r) D' := p
  cases hr : run n C G B ρ S with
  | bad => rw [hr] at p0; exact p0.elim
  | rt d S1 => rw [hr] at p0; exact h.run pins s σ H D' I ⟨m, ρ, S, ra, re, by rw [hr]; exact p0⟩
  | bk ρ1 S1 => rw [hr] at p0; exact h.run pins s σ H D' I ⟨m, ρ, S, ra, re, by rw [hr]; exact p0⟩
  | ct ρ1 S1 => rw [hr] at p0; exact h.run pins s σ H D' I ⟨m, ρ, S, ra, re, by rw [hr]; exact p0⟩
  | exc c q ρ1 S1 => rw [hr] at p0; exact h.run pins s σ H D' I ⟨m, ρ, S, ra, re, by rw [hr]; exact p0⟩
  | nx ρ1 S1 =>
    rw [hr] at p0
    have p1 : PostS X.kw X.mg W m H (fzE i S ρ1 S1) D' := p0
    refine thn (h.run pins s σ H { D' with nx := fun σ' H' => ∃ m', Le m m' H H' ∧ RelA X.kw X.mg m' H' S1 ∧ RelE X.kw X.mg m' H' σ' ρ1 } I ⟨m, ρ, S, ra, re, by rw [hr]; exact fun m' H' σ' l ra' re' => ⟨m', l, ra', re'⟩⟩) fun f s1 q => ?_
    cases f with
    | brk => exact q
    | cont => exact q
    | ret v => exact q
    | next =>
      obtain ⟨σ', H', I2, m', l, ra', re'⟩ := q
      cases he : ρ1[i]?.bind id with
      | none => unfold fzE at p1; rw [he] at p1; exact p1.elim
      | some d =>
        have hd : ρ1[i]? = some (some d) := by
          cases q1 : ρ1[i]? with
          | none => rw [q1] at he; cases he
          | some o => rw [q1] at he; exact congrArg some he
        obtain ⟨v, hv, rv⟩ := re'.at_ i d hd
        have fin : ∀ {d2 : D} {S2 : Sto} {H2 : Hp}, frzD d S1 = .ok d2 S2 → Le m m' H H2 → RelA X.kw X.mg m' H2 S2 → RelE X.kw X.mg m' H2 σ' ρ1 → Rp X.kw X.mg m' H2 d2 v → D'.nx σ' H2 := fun {d2 S2 H2} e l2 ra2 re2 rp2 => by
          unfold fzE at p1
          rw [he] at p1
          simp only [e] at p1
          have re3 := re2.put hv rp2
          unfold cutS at p1
          by_cases c : envLt S.length (ρ1.set i (some d2)) = true ∧ keepS S S2
          · rw [if_pos c] at p1
            exact p1 (m'.take m.length) H2 σ' l2.cut (ra.cut l2 ra2 c.2) (re3.take (by rw [ra.len]; exact c.1))
          · rw [if_neg c] at p1
            exact p1 m' H2 σ' l2 ra2 re3
        have keep : frzD d S1 = .ok d S1 → ∃ σ'' H'', Inv X pins σ'' H'' s1 ∧ D'.nx σ'' H'' := fun e => ⟨σ', H', I2, fin e l ra' re' rv⟩
        cases rv with
        | @loc k a b t =>
          cases q : S1[k]? with
          | none => exact keep (by unfold frzD; simp only [q])
          | some so =>
            cases so with
            | lst ds =>
              obtain ⟨vs, hb, g1, g2⟩ := ra'.at_ k (a, b) _ t q
              have hb' : b = false := hb
              subst hb'
              obtain ⟨od, I3⟩ := I2.lock g1 trivial
              have l2 : Le m' m' H' (upd H' a (.frz od (.lst vs))) := Le.writeO t g1 trivial
              exact ⟨σ', _, I3, fin (d2 := .fl ds) (S2 := S1.set k (.frz ds)) (by unfold frzD; simp only [q]) (l.trans l2) (ra'.writeO t g1 trivial ⟨vs, .inl ⟨rfl, od, upd_same⟩, g2.mono l2⟩) (re'.mono l2) (.fl upd_same (g2.mono l2))⟩
            | dic kvs =>
              obtain ⟨ks, hb, g1, g2⟩ := ra'.at_ k (a, b) _ t q
              have hb' : b = false := hb
              subst hb'
              obtain ⟨od, I3⟩ := I2.lock g1 trivial
              have l2 : Le m' m' H' (upd H' a (.frz od (.dK ks))) := Le.writeO t g1 trivial
              exact ⟨σ', _, I3, fin (d2 := .fd (kvs.map (·.1)) (kvs.map (·.2))) (S2 := S1.set k (.fdic kvs)) (by unfold frzD; simp only [q]) (l.trans l2) (ra'.writeO t g1 trivial ⟨ks, od, rfl, upd_same, kvs_mono g2 l2⟩) (re'.mono l2) (.fd upd_same g2.1 (g2.2.mono l2))⟩
            | dn kvs =>
              obtain ⟨xs, hb, g1, g2⟩ := ra'.at_ k (a, b) _ t q
              have hb' : b = false := hb
              subst hb'
              obtain ⟨od, I3⟩ := I2.lock g1 trivial
              have l2 : Le m' m' H' (upd H' a (.frz od (DnO X.w a xs))) := Le.writeO t g1 trivial
              have g3 := g2.mov l2.lt
              exact ⟨σ', _, I3, fin (d2 := .fm (kvs.map (·.1)) (kvs.map (·.2))) (S2 := S1.set k (.fdn kvs)) (by unfold frzD; simp only [q]) (l.trans l2) (ra'.writeO t g1 trivial ⟨xs, od, rfl, upd_same, g3⟩) (re'.mono l2) (.fm upd_same g3.1 (by rw [g3.1]; exact g3.2.1) g3.2.2)⟩
            | _ => exact keep (by unfold frzD; simp only [q])
        | _ => exact keep rfl
end
end CC
namespace CC
open PySem PySem.Spec PyProof.Rows L2
section
variable {X : Cx}
theorem bi_str : CallR X (.type "str") (rBi X.kw X.mg .str) := by
  intro pins s σ H xs us Q I r ⟨W, m, S, ds, ra, rs, p⟩
  rcases ds with _ | ⟨d, _ | ⟨e, t⟩⟩
  · exact p.elim
  · obtain ⟨x, rfl, rx⟩ := rps1 rs
    cases d with
    | int i =>
      cases rx
      have p' : Post X.kw X.mg W (Rp X.kw X.mg) m H (if decide (i.natAbs.log2 < 1900) then .ok (.str (toString i)) S else .bad) Q := p
      by_cases c : i.natAbs.log2 < 1900
      · rw [if_pos (decide_eq_true c)] at p'
        exact call_str_int pins s σ H _ us Q I r ⟨i, rfl, by omega, p'.now ra (.str _)⟩
      · rw [if_neg (by simpa using c)] at p'
        exact p'.elim
    | str x =>
      cases rx
      have p' : Post X.kw X.mg W (Rp X.kw X.mg) m H (.ok (.str x) S) Q := p
      exact SkE.call_str_str pins s σ H _ us Q I r ⟨x, rfl, p'.now ra (.str _)⟩
    | _ => exact p.elim
  · cases d <;> exact p.elim
end
end CC
namespace CC
open PySem PySem.Spec PyProof.Rows L2
def spI (K : PySem.W.Frag) (f : Str) : Sp := fun vs H Q _ => ∃ (a C : Addr) (y : V), vs = [.ref a, y] ∧ OexC K C ∧ PySem.W.findIn K (.ref C) f = some none ∧ H a = some (exo a C none) ∧
  ∀ dx, H dx = none → dx ≠ a → Q .non (upd (upd H dx (exd dx [(f, y)])) a (exo a C (some dx)))
structure ExI (K : PySem.W.Frag) (mg : Str → Option Value) (x f : Str) : Prop where
  ex : ∃ (Cl fI : Addr) (fd : FuncData) (se y : Str), mg x = some (.ref Cl) ∧ OexC K Cl ∧ PySem.W.findIn K (.ref Cl) "__init__" = some (some (.ref fI)) ∧ PySem.W.typeIn K (.ref fI) = some (.type "function") ∧ PySem.W.findIn K (.ref Cl) f = some none ∧
    Binds K fd [se, y] [] ∧ ∀ (P : Program) (w : World) (base : Heap) (CX : CXT), FnOk P w K mg base CX 1 fI fd [se, y] (spI K f)
theorem ExI.mg {K : PySem.W.Frag} {mg : Str → Option Value} {x f : Str} (t : ExI K mg x f) : ∃ Cl : Addr, mg x = some (.ref Cl) := by
  obtain ⟨Cl, _, _, _, _, h, _⟩ := t.ex
  exact ⟨Cl, h⟩
end CC
namespace CC
open PySem PySem.Spec PyProof.Rows L2
section
variable {P : Program} {w : World} {A : Around} {E : Value → Shared → Prop} {s : Shared} {h : Heap} {k : NestedKey} {b : Addr}
def Flat : NestedKey → Prop
  | .tup ks => ∀ k ∈ ks, (∃ i, k = .num i) ∨ ∃ x, k = .text x
  | _ => False
def Pln (v : Value) : Prop := (∃ b, v = .bool b) ∨ (∃ i t, v = .int i t) ∨ ∃ x t, v = .str x t
theorem pln_of {ks : List NestedKey} (hf : ∀ k ∈ ks, (∃ i, k = .num i) ∨ ∃ x, k = .text x) : ∀ {vs : List Value}, NestedAll h ks vs → ∀ v ∈ vs, Pln v := by
  induction ks with
  | nil =>
    intro vs hv v hm
    cases hv
    cases hm
  | cons k ks ih =>
    intro vs hv v hm
    cases hv with
    | @cons _ u _ us hu hus =>
      rcases List.mem_cons.mp hm with rfl | hm
      · rcases hf k List.mem_cons_self with ⟨i, rfl⟩ | ⟨x, rfl⟩
        · cases hu with
          | bool _ => exact .inl ⟨_, rfl⟩
          | int _ _ => exact .inr (.inl ⟨_, _, rfl⟩)
        · cases hu
          exact .inr (.inr ⟨_, _, rfl⟩)
      · exact ih (fun q hq => hf q (List.mem_cons_of_mem _ hq)) hus v hm
def Is (h : Heap) (k : NestedKey) (b : Addr) : Prop := NestedIs h k (.ref b) ∧ k.depth ≤ 8 ∧ Flat k
theorem Is.nk (z : Is h k b) : (nestedKind P w).is h k b := ⟨z.1, z.2.1⟩
theorem Is.obj (z : Is h k b) : ∃ o vs n, h.get? b = some o ∧ o.cls = .type "tuple" ∧ o.data = .seq vs n ∧ ∀ v ∈ vs.toList, Pln v := by
  obtain ⟨z1, _, z3⟩ := z
  cases z1 with
  | tup e1 e2 e3 e4 => exact ⟨_, _, _, e1, e2, e3, pln_of z3 e4⟩
theorem Is.mono {h' : Heap} (z : Is h k b) (hk : ∀ a o vs n, h.get? a = some o → o.data = .seq vs n → h'.get? a = some o) : Is h' k b := ⟨NestedIs.at hk _ _ z.1, z.2⟩
abbrev hsh (w : World) (p : Addr × NestedKey) : Int := p.2.hash w
abbrev ents (w : World) (M : List (Addr × NestedKey)) : List (Int × Value) := M.map fun p => (hsh w p, Value.ref p.1)
structure SetK (w : World) (h : Heap) (a : Addr) (M : List (Addr × NestedKey)) (es : Array (Int × Value)) (ep : Nat) (t : SetTable) : Prop where
  obj : ∃ o, h.get? a = some o ∧ o.ExactSet ∧ o.data = .set es ep t
  ent : es.toList = ents w M
  tab : TabOk t (M.map (hsh w))
  dif : (M.map (·.2)).Nodup
  key : ∀ p ∈ M, Is h p.2 p.1
  led : w.params.followText "set-order" = true ∨ t.led = true
  free : M.length * 5 < t.mask * 3
  few : M.length < 64
variable {a : Addr} {M : List (Addr × NestedKey)} {es : Array (Int × Value)} {ep : Nat} {t : SetTable}
theorem Is.set {h' : Heap} {o : Obj} (z : Is h k b) (ho : h.get? a = some o) (hd : o.data = .set es ep t) (hs : Heap.SameBut a h h') : Is h' k b := z.mono fun c ob vs n e1 e2 => by
  refine (hs.2 c fun e => ?_).trans e1
  subst e
  rw [ho] at e1
  cases e1
  rw [hd] at e2
  cases e2
theorem SetK.still {h' : Heap} (z : SetK w h a M es ep t) (ha : ∀ o, h.get? a = some o → h'.get? a = some o) (hk : ∀ p ∈ M, Is h' p.2 p.1) : SetK w h' a M es ep t := by
  obtain ⟨o, e1, e2⟩ := z.obj
  exact { z with obj := ⟨o, ha o e1, e2⟩, key := hk }
end
end CC
namespace CC
open PySem PySem.Spec PyProof.Rows L2
end CC
namespace CC
open PySem PySem.Spec PyProof.Rows L2
section
variable {K : KW} {mg : Str → Option Value} {m0 : Mp} {H0 : Hp}
theorem SqK.eq {k : Bool} {K : PySem.W.Frag} {H : Hp} {a : Addr} {xs : List V} (h : SqK k K H a xs) : SqK k K H a xs := h
end
section
variable {X : Cx} {C : CallSem} {G : Nat → Option D} {W : WX} {e o : Expr} {A B : Xp} {apos cpos : Pos}
theorem prm1 {f : List D → Sto → R D} {ρ : Env} {S : Sto} : ev C G (.prm f (.cons A .nil)) ρ S = (ev C G A ρ S).bind fun x S1 => f [x] S1 := by
  show ((ev C G A ρ S).bind fun x S1 => (R.ok [] S1).bind fun xs S2 => .ok (x :: xs) S2).bind (fun xs S1 => f xs S1) = _
  cases ev C G A ρ S <;> rfl
theorem prm2 {f : List D → Sto → R D} {ρ : Env} {S : Sto} : ev C G (.prm f (.cons A (.cons B .nil))) ρ S = (ev C G A ρ S).bind fun x S1 => (ev C G B ρ S1).bind fun y S2 => f [x, y] S2 := by
  show ((ev C G A ρ S).bind fun x S1 => ((ev C G B ρ S1).bind fun y S2 => (R.ok [] S2).bind fun ys S3 => .ok (y :: ys) S3).bind fun xs S2 => .ok (x :: xs) S2).bind (fun xs S1 => f xs S1) = _
  cases ev C G A ρ S with
  | ok x S1 =>
    show (((ev C G B ρ S1).bind fun y S2 => (R.ok [] S2).bind fun ys S3 => .ok (y :: ys) S3).bind fun xs S2 => .ok (x :: xs) S2).bind (fun xs S1 => f xs S1) = _
    cases h : ev C G B ρ S1 with
    | ok y S2 => show _ = ((ev C G B ρ S1).bind fun y S2 => f [x, y] S2); rw [h]; rfl
    | exc c q S2 => show _ = ((ev C G B ρ S1).bind fun y S2 => f [x, y] S2); rw [h]; rfl
    | bad => show _ = ((ev C G B ρ S1).bind fun y S2 => f [x, y] S2); rw [h]; rfl
  | _ => rfl
end
end CC
namespace CC
open PySem PySem.Spec PyProof.Rows L2
theorem tryN3 {n : Nat} {C : CallSem} {G : Nat → Option D} {A B1 B2 B3 : Sx} {o1 o2 o3 : Option Nat} {c1 c2 c3 : List (Nat × Bool)} {ρ : Env} {S : Sto} :
    run n C G (.tryA (.tryA (.tryA A o1 c1 B1) o2 c2 B2) o3 c3 B3) ρ S = match run n C G A ρ S with
      | .exc c q ρ1 S1 => match c1.lookup c with
        | some true => suiteR o1 (run n C G B1 (asE o1 (.exn c q) ρ1) S1)
        | some false => (match c2.lookup c with
          | some true => suiteR o2 (run n C G B2 (asE o2 (.exn c q) ρ1) S1)
          | some false => (match c3.lookup c with
            | some true => suiteR o3 (run n C G B3 (asE o3 (.exn c q) ρ1) S1)
            | some false => .exc c q ρ1 S1
            | none => .bad)
          | none => .bad)
        | none => .bad
      | r => r := by
  have step : run n C G (.tryA (.tryA (.tryA A o1 c1 B1) o2 c2 B2) o3 c3 B3) ρ S = match run n C G (.tryA (.tryA A o1 c1 B1) o2 c2 B2) ρ S with
    | .exc c' p ρ1 S1 => match c3.lookup c' with
      | some true => suiteR o3 (run n C G B3 (asE o3 (.exn c' p) ρ1) S1)
      | some false => .exc c' p ρ1 S1
      | none => .bad
    | r => r := rfl
  rw [step, tryN2]
  have no : ∀ {o : Option Nat} {r : Rs} {c : Nat} {q : List D} {ρ : Env} {S : Sto}, suiteR o r ≠ .exc c q ρ S := fun {o r c q ρ S} h => by cases r <;> cases h
  cases run n C G A ρ S with
  | exc c q ρ1 S1 =>
    cases h : c1.lookup c with
    | none => simp only [h]
    | some t =>
      cases t with
      | true =>
        simp only [h]
        cases run n C G B1 (asE o1 (.exn c q) ρ1) S1 <;> rfl
      | false =>
        simp only [h]
        cases h2 : c2.lookup c with
        | none => simp only [h2]
        | some t2 =>
          cases t2 with
          | true =>
            simp only [h2]
            cases run n C G B2 (asE o2 (.exn c q) ρ1) S1 <;> rfl
          | false => simp only [h2]
  | _ => rfl
end CC
namespace CC
open PySem PySem.Spec PyProof.Rows L2
def rPr (K : KW) (mg : Str → Option Value) (f : List D → Sto → R D) : List V → Hp → VK → Prop := fun vs H Q => ∃ W m S ds, RelA K mg m H S ∧ Rps K mg m H ds vs ∧ Post K mg W (Rp K mg) m H (f ds S) Q
end CC
namespace CC
open PySem PySem.Spec PyProof.Rows L2
end CC
namespace CC
open PySem PySem.Spec PyProof.Rows L2
structure MAt (P : Program) (w : World) (K : PySem.W.Frag) (mg : Str → Option Value) (base : Heap) (k : Nat) (c : Nat) (m : Str) (np : Nat) (kw : List (Nat × List Str × List Nat)) (cs : List D → Sto → R D) : Prop where
  ex : ∃ (x : Str) (Cl f : Addr) (fd : FuncData) (ps : List Str), insNames[c]? = some x ∧ mg x = some (.ref Cl) ∧ Cls K Cl ∧ Meth K Cl m f ∧ ps.length = np ∧ Binds K fd ps [] ∧ (∀ q ∈ kw, KB fd ps q) ∧ FnG P w K mg base k f fd ps cs
theorem MAt.mono {P : Program} {w : World} {K : PySem.W.Frag} {mg : Str → Option Value} {base : Heap} {j k c np : Nat} {m : Str} {kw : List (Nat × List Str × List Nat)} {cs : List D → Sto → R D} (h : MAt P w K mg base j c m np kw cs) (l : j ≤ k) : MAt P w K mg base k c m np kw cs := by
  obtain ⟨x, Cl, f, fd, ps, h1, h2, h3, h4, h5, h6, h7, h8⟩ := h.ex
  exact ⟨x, Cl, f, fd, ps, h1, h2, h3, h4, h5, h6, h7, h8.mono l⟩
end CC
namespace CC
open PySem PySem.Spec PyProof.Rows L2
end CC
namespace CC
open PySem PySem.Spec PyProof.Rows L2
end CC
namespace CC
open PySem PySem.Spec PyProof.Rows L2
end CC
namespace CC
open PySem PySem.Spec PyProof.Rows L2
end CC
namespace CC
open PySem PySem.Spec PyProof.Rows L2
end CC
namespace CC
open PySem PySem.Spec PyProof.Rows L2
end CC
namespace CC
open PySem PySem.Spec PyProof.Rows L2
end CC
namespace CC
open PySem PySem.Spec PyProof.Rows L2
end CC
namespace CC
open PySem PySem.Spec PyProof.Rows L2
end CC
namespace CC
open PySem PySem.Spec PyProof.Rows L2
end CC
namespace CC
open PySem PySem.Spec PyProof.Rows L2
section
variable {X : Cx} {C : CallSem} {G : Nat → Option D} {W : WX} {e : Expr} {A : Xp} {pos : Pos}
theorem de_prT {x : Str} {T : String} {f : List D → Sto → R D} {es : List Expr} {p : Pos} {cb : Bool} (cx : Ctx cb X) (hx : x ∈ bnames) (hc : CallR X (.type T) (rPr X.kw X.mg f)) (hg : Gl X x) (hv : bootBuiltins x = some (.type T)) (ha : PA X (e :: es) (tDs X C G W A))
    (hn : x ≠ "__name__" := by decide) (hdb : (x == ("__debug__" : Str)) = false := by decide) (he : starEach (e :: es) X.env = (false, eval e X.env) :: starEach es X.env := by rfl) (hpl : (backTo pos (starEach es X.env)).any (·.1) = false := by rfl) :
    PE X (.Call (.Name x p) (e :: es) [] pos) (tD X C G W (.prm f A)) :=
  PE_imp (pe_callTy hc hg (cx.nob x hx) hv ha hn hdb he hpl) fun σ H Q ⟨m, ρ, S, ra, re, p⟩ => ⟨m, ρ, S, ra, re, Post.imp (Post.bind p) fun xs H1 ⟨m1, ds, S1, l1, ra1, r1, p1⟩ => ⟨_, m1, S1, ds, ra1, r1, p1⟩⟩
end
end CC
namespace CC
open PySem PySem.Spec PyProof.Rows L2
end CC
namespace CC
open PySem PySem.Spec PyProof.Rows L2
def asStrF (xs : List D) (S : Sto) : R D := match xs with
  | [.str x] => .ok (.str x) S
  | _ => .bad
def splF (xs : List D) (S : Sto) : R D := match xs with
  | [.str x, .str y] => if (!(y.length == 0) && decide (x.length + 2 ≤ sizeLine)) = true then mk (.lst ((Txt.split x y).map D.str)) S else .bad
  | _ => .bad
def strsD : List D → Option (List Str)
  | [] => some []
  | .str x :: r => (strsD r).map (x :: ·)
  | _ => none
def joiF (xs : List D) (S : Sto) : R D := match xs with
  | [.str x, d] => match (lstD S d).bind strsD with
    | some ys => if (ys.map (·.length)).sum + ys.length * x.length ≤ 16777216 then .ok (.str (Txt.join x ys)) S else .bad
    | none => .bad
  | _ => .bad
def intF (xs : List D) (S : Sto) : R D := match xs with
  | [.str x] => match PySem.intText? x with
    | some n => if x.length ≤ 640 then .ok (.int n) S else .bad
    | none => .bad
  | _ => .bad
def sixF (xs : List D) (S : Sto) : R D := match xs with
  | [.str a, .str b] => match Builtin.Str.occurrences a b 0 a.length 1 with
    | i :: _ => .ok (.int (i : Nat)) S
    | [] => .bad
  | _ => .bad
theorem asStr_or {x : D} {S : Sto} : (∃ a, x = .str a ∧ asStrF [x] S = .ok (.str a) S) ∨ asStrF [x] S = .bad := by
  cases x <;> first | exact .inl ⟨_, rfl, rfl⟩ | exact .inr rfl
theorem strsD_eq : ∀ {ds : List D} {ys : List Str}, strsD ds = some ys → ds = ys.map D.str
  | [], ys, h => by cases h; rfl
  | d :: ds, ys, h => by
    cases d with
    | str x =>
      replace h : (strsD ds).map (x :: ·) = some ys := h
      cases q : strsD ds with
      | none => rw [q] at h; cases h
      | some zs =>
        rw [q] at h
        cases h
        rw [strsD_eq q]
        rfl
    | _ => cases h
section
variable {X : Cx} {C : CallSem} {G : Nat → Option D} {W : WX} {e o : Expr} {A B : Xp} {apos cpos pos p : Pos}
theorem rps_strs {kw : KW} {mg : Str → Option Value} {m : Mp} {H : Hp} : ∀ {ys : List Str}, Rps kw mg m H (ys.map D.str) (ys.map V.str)
  | [] => .nil
  | _ :: _ => .cons (.str _) rps_strs
theorem rps_strs_eq {kw : KW} {mg : Str → Option Value} {m : Mp} {H : Hp} : ∀ {ys : List Str} {vs : List V}, Rps kw mg m H (ys.map D.str) vs → vs = ys.map V.str
  | [], _, h => by cases h; rfl
  | y :: ys, _, h => by
    cases h with
    | cons h hs =>
      cases h
      rw [rps_strs_eq hs]
      rfl
theorem tM_str {r : V → List V → Hp → VK → Prop} {f : List D → Sto → R D} {σ : L2.St} {H : Hp} {Q : VK}
    (hf : ∀ (a : Str) (m : Mp) (S : Sto) (d : D) (y : V) (H : Hp), RelA X.kw X.mg m H S → Rp X.kw X.mg m H d y → Post X.kw X.mg (fun c d H' => W c d σ H') (Rp X.kw X.mg) m H (f [.str a, d] S) Q → r (.str a) [y] H Q)
    (h : tD X C G W (.prm f (.cons (.prm asStrF (.cons A .nil)) (.cons B .nil))) σ H Q) : tM1 r (tD X C G W A) (tD X C G W B) σ H Q := by
  obtain ⟨m, ρ, S, ra, re, p⟩ := h
  rw [prm2, prm1] at p
  replace p : Post X.kw X.mg (fun c d H' => W c d σ H') (Rp X.kw X.mg) m H ((ev C G A ρ S).bind fun x0 S0 => (asStrF [x0] S0).bind fun x S1 => (ev C G B ρ S1).bind fun y S2 => f [x, y] S2) Q := by
    cases h : ev C G A ρ S <;> rw [h] at p <;> exact p
  refine ⟨m, ρ, S, ra, re, Post.imp (Post.bind p) fun x H1 ⟨m1, d, S1, l1, ra1, r1, p1⟩ => ?_⟩
  rcases asStr_or (x := d) (S := S1) with ⟨a, rfl, q⟩ | q
  · rw [q] at p1
    cases r1
    refine ⟨⟨a, rfl⟩, m1, ρ, S1, ra1, re.mono l1, Post.imp (Post.bind p1) fun y H2 ⟨m2, d2, S2, l2, ra2, r2, p2⟩ => ?_⟩
    exact hf a m2 S2 d2 y H2 ra2 r2 p2
  · rw [q] at p1
    exact p1.elim
theorem de_split (ho : PE X o (tD X C G W A)) (he : PE X e (tD X C G W B)) (hs : starEach [e] X.env = [(false, eval e X.env)] := by rfl) (hbase : attributeBase o "split" X.env (eval o X.env) = eval o X.env := by rfl) (hline : (apos.endLine == pos.line) = true := by rfl) :
    PE X (.Call (.Attribute o "split" apos) [e] [] pos) (tD X C G W (.prm splF (.cons (.prm asStrF (.cons A .nil)) (.cons B .nil)))) :=
  PE_imp (pe_split ho he hs hbase hline) fun σ H Q h => tM_str (fun a m S d y H ra r p => by
    cases r with
    | str b =>
      replace p : Post X.kw X.mg (fun c d H' => W c d σ H') (Rp X.kw X.mg) m H (if (!(b.length == 0) && decide (a.length + 2 ≤ sizeLine)) = true then mk (.lst ((Txt.split a b).map D.str)) S else .bad) Q := p
      by_cases c : (!(b.length == 0) && decide (a.length + 2 ≤ sizeLine)) = true
      · rw [if_pos c] at p
        simp only [Bool.and_eq_true, Bool.not_eq_true', decide_eq_true_eq] at c
        exact ⟨a, b, rfl, rfl, c.1, c.2, post_mk ra rps_strs p⟩
      · rw [if_neg c] at p
        exact p.elim
    | _ => exact p.elim) h
theorem de_join (ho : PE X o (tD X C G W A)) (he : PE X e (tD X C G W B)) (hs : starEach [e] X.env = [(false, eval e X.env)] := by rfl) (hbase : attributeBase o "join" X.env (eval o X.env) = eval o X.env := by rfl) (hline : (apos.endLine == pos.line) = true := by rfl) :
    PE X (.Call (.Attribute o "join" apos) [e] [] pos) (tD X C G W (.prm joiF (.cons (.prm asStrF (.cons A .nil)) (.cons B .nil)))) :=
  PE_imp (pe_join ho he hs hbase hline) fun σ H Q h => tM_str (fun a m S d y H ra r p => by
    replace p : Post X.kw X.mg (fun c d H' => W c d σ H') (Rp X.kw X.mg) m H (match (lstD S d).bind strsD with
      | some ys => if (ys.map (·.length)).sum + ys.length * a.length ≤ 16777216 then .ok (.str (Txt.join a ys)) S else .bad
      | none => .bad) Q := p
    cases hd : lstD S d with
    | none => rw [hd] at p; exact p.elim
    | some ds =>
      rw [hd] at p
      cases hk : strsD ds with
      | none =>
        rw [show (some ds).bind strsD = none from hk] at p
        exact p.elim
      | some ys =>
        rw [show (some ds).bind strsD = some ys from hk] at p
        replace p : Post X.kw X.mg (fun c d H' => W c d σ H') (Rp X.kw X.mg) m H (if (ys.map (·.length)).sum + ys.length * a.length ≤ 16777216 then .ok (.str (Txt.join a ys)) S else .bad) Q := p
        by_cases c : (ys.map (·.length)).sum + ys.length * a.length ≤ 16777216
        · rw [if_pos c] at p
          have e := strsD_eq hk
          subst e
          obtain ⟨q, vs, rfl, h1, h2⟩ := ra.seqD r hd
          have e2 := rps_strs_eq h2
          subst e2
          exact ⟨a, q, ys, rfl, rfl, .inl h1, c, p.now ra (.str _)⟩
        · rw [if_neg c] at p
          exact p.elim) h
theorem de_sidx (ho : PE X o (tD X C G W A)) (he : PE X e (tD X C G W B)) (hs : starEach [e] X.env = [(false, eval e X.env)] := by rfl) (hbase : attributeBase o "index" X.env (eval o X.env) = eval o X.env := by rfl) (hline : (apos.endLine == pos.line) = true := by rfl) :
    PE X (.Call (.Attribute o "index" apos) [e] [] pos) (tD X C G W (.prm sixF (.cons (.prm asStrF (.cons A .nil)) (.cons B .nil)))) :=
  PE_imp (pe_m1 PySem.F.slot_str_index PySem.F.type_str_index mt_sindex ho he hs hbase hline) fun σ H Q h => tM_str (fun a m S d y H ra r p => by
    cases r with
    | str b =>
      replace p : Post X.kw X.mg (fun c d H' => W c d σ H') (Rp X.kw X.mg) m H (match Builtin.Str.occurrences a b 0 a.length 1 with
        | i :: _ => .ok (.int (i : Nat)) S
        | [] => .bad) Q := p
      cases c : Builtin.Str.occurrences a b 0 a.length 1 with
      | nil => rw [c] at p; exact p.elim
      | cons i rest =>
        rw [c] at p
        exact ⟨a, b, i, rest, rfl, rfl, c, p.now ra (.int _)⟩
    | _ => exact p.elim) h
theorem call_intT : CallR X (.type "int") (fun xs H Q => ∃ x n, xs = [.str x] ∧ PySem.intText? x = some n ∧ x.length ≤ 640 ∧ Q (.int n) H) := by
  intro pins s σ H xs us Q I r h
  obtain ⟨x, n, rfl, h1, h2, q⟩ := h
  obtain ⟨u, rfl, t, rfl⟩ := vals1 r
  exact PySem.W.KIN.call_text h1 h2 ⟨.int n, H, I.tok _, ⟨_, rfl⟩, q⟩
theorem bi_intT : CallR X (.type "int") (rPr X.kw X.mg intF) := by
  intro pins s σ H xs us Q I r ⟨W, m, S, ds, ra, rs, p⟩
  match ds, p, rs with
  | [], p, rs => exact p.elim
  | d :: e :: l, p, rs => cases d <;> exact p.elim
  | [d], p, rs =>
    obtain ⟨x, rfl, rx⟩ := rps1 rs
    cases rx with
    | str x =>
      replace p : Post X.kw X.mg W (Rp X.kw X.mg) m H (match PySem.intText? x with
        | some n => if x.length ≤ 640 then .ok (.int n) S else .bad
        | none => .bad) Q := p
      cases h : PySem.intText? x with
      | none => rw [h] at p; exact p.elim
      | some n =>
        rw [h] at p
        replace p : Post X.kw X.mg W (Rp X.kw X.mg) m H (if x.length ≤ 640 then .ok (.int n) S else .bad) Q := p
        by_cases c : x.length ≤ 640
        · rw [if_pos c] at p
          exact call_intT pins s σ H _ us Q I r ⟨x, n, rfl, h, c, p.now ra (.int _)⟩
        · rw [if_neg c] at p
          exact p.elim
    | _ => exact p.elim
end
end CC
namespace CC
open PySem PySem.Spec PyProof.Rows L2
abbrev Eo : Nat → List D → Sto → Prop := fun _ _ _ => False
def WR {α : Type} (r : R α) (Q : α → Sto → Prop) (E : Nat → List D → Sto → Prop) : Prop := match r with
  | .ok a S => Q a S
  | .exc c p S => E c p S
  | .bad => False
structure Po where
  nx : Env → Sto → Prop
  rt : D → Sto → Prop
  bk : Env → Sto → Prop
  ct : Env → Sto → Prop
  ex : Nat → List D → Env → Sto → Prop
def Ws (r : Rs) (p : Po) : Prop := match r with
  | .nx ρ S => p.nx ρ S
  | .rt d S => p.rt d S
  | .bk ρ S => p.bk ρ S
  | .ct ρ S => p.ct ρ S
  | .exc c q ρ S => p.ex c q ρ S
  | .bad => False
def optP {α : Type} (o : Option α) (f : α → Prop) : Prop := match o with
  | some a => f a
  | none => False
@[simp] theorem optP_some {α : Type} (a : α) (f : α → Prop) : optP (some a) f = f a := rfl
@[simp] theorem optP_none {α : Type} (f : α → Prop) : optP none f = False := rfl
@[simp ↓] theorem optP_match {α : Type} {o : Option α} {f : α → Prop} : optP o f = (match o with | some a => f a | none => False) := rfl
@[simp] theorem optP_map {α β : Type} (o : Option α) (g : α → β) (f : β → Prop) : optP (o.map g) f = optP o (fun a => f (g a)) := by cases o <;> rfl
theorem WR.mono {α : Type} {r : R α} {Q Q' : α → Sto → Prop} {E E' : Nat → List D → Sto → Prop} (h : WR r Q E) (i : ∀ a S, Q a S → Q' a S) (j : ∀ c p S, E c p S → E' c p S) : WR r Q' E' := by
  cases r with
  | ok a S => exact i a S h
  | exc c p S => exact j c p S h
  | bad => exact h
theorem Ws.mono {r : Rs} {p q : Po} (h : Ws r p) (h1 : ∀ ρ S, p.nx ρ S → q.nx ρ S) (h2 : ∀ d S, p.rt d S → q.rt d S) (h3 : ∀ ρ S, p.bk ρ S → q.bk ρ S) (h4 : ∀ ρ S, p.ct ρ S → q.ct ρ S) (h5 : ∀ c l ρ S, p.ex c l ρ S → q.ex c l ρ S) : Ws r q := by
  cases r with
  | nx _ _ => exact h1 _ _ h
  | rt _ _ => exact h2 _ _ h
  | bk _ _ => exact h3 _ _ h
  | ct _ _ => exact h4 _ _ h
  | exc _ _ _ _ => exact h5 _ _ _ _ h
  | bad => exact h
theorem wp_trim {S : Sto} {r : R D} {Q : D → Sto → Prop} {E : Nat → List D → Sto → Prop} : WR (trim S r) Q E = WR r (fun d S' => Q d (cutS S (d.lt S.length) S')) (fun c p S' => E c p (cutS S (ltL S.length p) S')) := by cases r <;> rfl
theorem wp_bind {α β : Type} {r : R α} {f : α → Sto → R β} {Q : β → Sto → Prop} {E : Nat → List D → Sto → Prop} : WR (r.bind f) Q E = WR r (fun a S => WR (f a S) Q E) E := by cases r <;> rfl
section
variable {C : CallSem} {G : Nat → Option D} {ρ : Env} {S : Sto} {Q : D → Sto → Prop} {E : Nat → List D → Sto → Prop} {a b c : Xp}
@[simp ↓] theorem w_ok {α : Type} {x : α} {Q : α → Sto → Prop} : WR (.ok x S) Q E = Q x S := rfl
@[simp ↓] theorem w_exc {α : Type} {n : Nat} {p : List D} {Q : α → Sto → Prop} : WR (.exc n p S : R α) Q E = E n p S := rfl
@[simp ↓] theorem w_bad {α : Type} {Q : α → Sto → Prop} : WR (.bad : R α) Q E = False := rfl
@[simp ↓] theorem w_opt {α : Type} {o : Option α} {Q : α → Sto → Prop} : WR (R.opt o S) Q E = optP o (fun x => Q x S) := by cases o <;> rfl
@[simp ↓] theorem w_mk {so : SO} : WR (mk so S) Q E = Q (.loc S.length) (S ++ [so]) := rfl
@[simp ↓] theorem w_var {i : Nat} : WR (ev C G (.var i) ρ S) Q E = optP (ρ[i]?.bind id) (fun x => Q x S) := by show WR (R.opt _ S) Q E = _; exact w_opt
@[simp ↓] theorem w_glo {i : Nat} : WR (ev C G (.glo i) ρ S) Q E = optP (G i) (fun x => Q x S) := by show WR (R.opt _ S) Q E = _; exact w_opt
@[simp ↓] theorem w_non : WR (ev C G .non ρ S) Q E = Q .non S := rfl
@[simp ↓] theorem w_bl {k : Bool} : WR (ev C G (.bl k) ρ S) Q E = Q (.bl k) S := rfl
@[simp ↓] theorem w_int {i : Int} : WR (ev C G (.int i) ρ S) Q E = Q (.int i) S := rfl
@[simp ↓] theorem w_str {x : Str} : WR (ev C G (.str x) ρ S) Q E = Q (.str x) S := rfl
@[simp ↓] theorem w_tyc {t : String} : WR (ev C G (.tyc t) ρ S) Q E = Q (.ty t) S := rfl
@[simp ↓] theorem w_bin {op : Operator} : WR (ev C G (.bin op a b) ρ S) Q E = WR (ev C G a ρ S) (fun x S1 => WR (ev C G b ρ S1) (fun y S2 => WR (binD op x y S2) Q E) E) E := by
  show WR (R.bind _ fun x S1 => R.bind _ _) Q E = _
  simp only [wp_bind]
def gdP (t : List (Str × D)) (x : D) (f : D → Prop) : Prop := match x with
  | .str z => optP (t.lookup z) f
  | _ => False
@[simp] theorem gdP_str {t : List (Str × D)} {z : Str} {f : D → Prop} : gdP t (.str z) f = optP (t.lookup z) f := rfl
def asIP (x : D) (f : Int → Prop) : Prop := match x with
  | .int i => f i
  | _ => False
@[simp] theorem asIP_int {i : Int} {f : Int → Prop} : asIP (.int i) f = f i := rfl
@[simp ↓] theorem w_asI {r : R D} {Q : Int → Sto → Prop} : WR (asI r) Q E = WR r (fun x S => asIP x fun i => Q i S) E := by
  cases r with
  | ok x S => cases x <;> rfl
  | _ => rfl
@[simp ↓] theorem w_asT {r : R D} {Q : Bool → Sto → Prop} : WR (asT r) Q E = WR r (fun x S => optP (truth x S) fun t => Q t S) E := by
  cases r with
  | ok x S => exact w_opt
  | _ => rfl
@[simp ↓] theorem w_neg : WR (ev C G (.neg a) ρ S) Q E = WR (ev C G a ρ S) (fun x S1 => asIP x fun i => Q (.int (-i)) S1) E := by
  show WR (R.bind (asI _) _) Q E = _
  rw [wp_bind, w_asI]
  rfl
@[simp ↓] theorem w_nt : WR (ev C G (.nt a) ρ S) Q E = WR (ev C G a ρ S) (fun x S1 => optP (truth x S1) fun t => Q (.bl (!t)) S1) E := by
  show WR (R.bind (asT _) _) Q E = _
  rw [wp_bind, w_asT]
  rfl
def selO (o : Option Bool) (p q : Prop) : Prop := match o with
  | some true => p
  | some false => q
  | none => False
@[simp ↓] theorem selO_match {o : Option Bool} {p q : Prop} : selO o p q = (match o with | some t => (if t = true then p else q) | none => False) := by cases o with
  | none => rfl
  | some k => cases k <;> rfl
@[simp] theorem selO_some {k : Bool} {p q : Prop} : selO (some k) p q = if k = true then p else q := by cases k <;> rfl
@[simp] theorem selO_none {p q : Prop} : selO none p q = False := rfl
@[simp ↓] theorem w_and : WR (ev C G (.and a b) ρ S) Q E = WR (ev C G a ρ S) (fun x S1 => selO (truth x S1) (WR (ev C G b ρ S1) Q E) (Q x S1)) E := by
  show WR (R.bind _ fun x S1 => _) Q E = _
  rw [wp_bind]
  congr 1
  funext x S1
  cases h : truth x S1 with
  | none => rfl
  | some t => cases t <;> rfl
@[simp ↓] theorem w_or : WR (ev C G (.or a b) ρ S) Q E = WR (ev C G a ρ S) (fun x S1 => selO (truth x S1) (Q x S1) (WR (ev C G b ρ S1) Q E)) E := by
  show WR (R.bind _ fun x S1 => _) Q E = _
  rw [wp_bind]
  congr 1
  funext x S1
  cases h : truth x S1 with
  | none => rfl
  | some t => cases t <;> rfl
@[simp ↓] theorem w_cmp {op : CmpOp} : WR (ev C G (.cmp op a b) ρ S) Q E = WR (ev C G a ρ S) (fun x S1 => WR (ev C G b ρ S1) (fun y S2 => optP (cmpD op x y S2) fun t => Q (.bl t) S2) E) E := by
  show WR (R.bind _ fun x S1 => R.bind _ _) Q E = _
  simp only [wp_bind, w_opt, optP_map]
@[simp ↓] theorem w_cmp2 {op op' : CmpOp} : WR (ev C G (.cmp2 op op' a b c) ρ S) Q E = WR (ev C G a ρ S) (fun x S1 => WR (ev C G b ρ S1) (fun y S2 => selO (cmpD op x y S2) (WR (ev C G c ρ S2) (fun z S3 => optP (cmpD op' y z S3) fun t => Q (.bl t) S3) E) (Q (.bl false) S2)) E) E := by
  show WR (R.bind _ fun x S1 => R.bind _ _) Q E = _
  simp only [wp_bind]
  congr 1
  funext x S1
  congr 1
  funext y S2
  cases h : cmpD op x y S2 with
  | none => rfl
  | some t =>
    cases t with
    | false => rfl
    | true =>
      show WR (R.bind _ _) Q E = _
      simp only [wp_bind, w_opt, optP_map]
      rfl
@[simp ↓] theorem w_ife : WR (ev C G (.ife c a b) ρ S) Q E = WR (ev C G c ρ S) (fun x S1 => selO (truth x S1) (WR (ev C G a ρ S1) Q E) (WR (ev C G b ρ S1) Q E)) E := by
  show WR (R.bind (asT _) _) Q E = _
  rw [wp_bind, w_asT]
  congr 1
  funext x S1
  cases truth x S1 with
  | none => rfl
  | some t => cases t <;> rfl
@[simp ↓] theorem w_call {f : Nat} {es : Xp} : WR (ev C G (.call f es) ρ S) Q E = WR (evs C G es ρ S) (fun xs S1 => WR (C f xs S1) Q E) E := by
  show WR (R.bind _ _) Q E = _
  rw [wp_bind]
@[simp ↓] theorem w_callv {t : List (Str × Nat)} {es : Xp} : WR (ev C G (.callv t a es) ρ S) Q E = WR (ev C G a ρ S) (fun g S0 => optP (fnIx t g) fun i => WR (evs C G es ρ S0) (fun xs S1 => WR (C i xs S1) Q E) E) E := by
  show WR (R.bind _ fun g S0 => _) Q E = _
  rw [wp_bind]
  congr 1
  funext g S0
  cases fnIx t g with
  | none => rfl
  | some i => show WR (R.bind _ _) Q E = _; rw [wp_bind]; rfl
@[simp] theorem fnIx_fn {t : List (Str × Nat)} {z : Str} : fnIx t (.fn z) = t.lookup z := rfl
@[simp ↓] theorem w_dd {es : Xp} : WR (ev C G (.dd es) ρ S) Q E = WR (evs C G es ρ (S ++ [.dic []])) (fun xs S1 => WR (ddD S.length xs S1) Q E) E := by
  show WR (R.bind _ _) Q E = _
  rw [wp_bind]
def ddP (xs : List D) (f : List (Key × D) → Prop) : Prop := xs.length ≤ 30 ∧ optP (ddL xs []) f
@[simp ↓] theorem w_ddD {xs : List D} : WR (ddD S.length xs (S ++ [.dic []])) Q E = ddP xs fun kvs => Q (.loc S.length) (S ++ [.dic kvs]) := by
  unfold ddD ddP
  have e : (S ++ [SO.dic []])[S.length]? = some (.dic []) := by simp
  rw [e]
  cases h : ddL xs [] with
  | none => simp [WR, optP]
  | some kvs =>
    simp only [optP]
    by_cases c : xs.length ≤ 30
    · rw [if_pos c]
      have e2 : (S ++ [SO.dic []]).set S.length (.dic kvs) = S ++ [.dic kvs] := by
        rw [List.set_append_right _ _ (Nat.le_refl _)]
        simp
      rw [e2]
      simp [WR, c]
    · rw [if_neg c]
      simp [WR, c]
@[simp ↓] theorem w_ddn {es : Xp} : WR (ev C G (.ddn es) ρ S) Q E = WR (evs C G es ρ (S ++ [.dn []])) (fun xs S1 => WR (ddnD S.length xs S1) Q E) E := by
  show WR (R.bind _ _) Q E = _
  rw [wp_bind]
def ddnP (xs : List D) (f : List (NestedKey × D) → Prop) : Prop := xs.length ≤ 30 ∧ optP (ddnL xs []) f
@[simp ↓] theorem w_ddnD {xs : List D} : WR (ddnD S.length xs (S ++ [.dn []])) Q E = ddnP xs fun kvs => Q (.loc S.length) (S ++ [.dn kvs]) := by
  unfold ddnD ddnP
  have e : (S ++ [SO.dn []])[S.length]? = some (.dn []) := by simp
  rw [e]
  cases h : ddnL xs [] with
  | none => simp [WR, optP]
  | some kvs =>
    simp only [optP]
    by_cases c : xs.length ≤ 30
    · rw [if_pos c]
      have e2 : (S ++ [SO.dn []]).set S.length (.dn kvs) = S ++ [.dn kvs] := by
        rw [List.set_append_right _ _ (Nat.le_refl _)]
        simp
      rw [e2]
      simp [WR, c]
    · rw [if_neg c]
      simp [WR, c]
@[simp ↓] theorem w_xfld {f : Str} : WR (ev C G (.xfld f a) ρ S) Q E = WR (ev C G a ρ S) (fun x S1 => optP (fldD f x) fun y => Q y S1) E := by
  show WR (R.bind _ fun x S1 => _) Q E = _
  simp only [wp_bind, w_opt]
@[simp] theorem fldD_dir {d : D} : fldD "direction" (.exn 9 [d]) = some d := rfl
@[simp] theorem fldD_lim {d : D} : fldD "limit" (.exn 10 [d]) = some d := rfl
@[simp ↓] theorem w_mkx {c : Nat} {es : Xp} : WR (ev C G (.mkx c es) ρ S) Q E = WR (evs C G es ρ S) (fun xs S1 => Q (.exn c xs) S1) E := by
  show WR (R.bind _ fun x S1 => _) Q E = _
  rw [wp_bind]
  rfl
@[simp] theorem permL_nil {α : Type} {vs : List α} : permL vs [] = some [] := rfl
@[simp] theorem permL_cons {α : Type} {vs : List α} {q : Nat} {qs : List Nat} : permL vs (q :: qs) = (vs[q]?).bind fun v => (permL vs qs).map (v :: ·) := rfl
@[simp ↓] theorem w_callk {f : Nat} {es ks : Xp} {perm : List Nat} : WR (ev C G (.callk f es ks perm) ρ S) Q E = WR (evs C G es ρ S) (fun xs S1 => WR (evs C G ks ρ S1) (fun ys S2 => optP (permL (xs ++ ys) perm) fun zs => WR (C f zs S2) Q E) E) E := by
  show WR (R.bind _ fun xs S1 => R.bind _ _) Q E = _
  simp only [wp_bind]
  congr 1
  funext x S1
  congr 1
  funext y S2
  cases permL (x ++ y) perm <;> rfl
@[simp ↓] theorem w_bi {f : Bi} {es : Xp} : WR (ev C G (.bi f es) ρ S) Q E = WR (evs C G es ρ S) (fun xs S1 => WR (biD f xs S1) Q E) E := by
  show WR (R.bind _ _) Q E = _
  rw [wp_bind]
@[simp ↓] theorem w_callvk {t : List (Str × Nat)} {es ks : Xp} {perm : List Nat} : WR (ev C G (.callvk t a es ks perm) ρ S) Q E = WR (ev C G a ρ S) (fun g S0 => optP (fnIx t g) fun i => WR (evs C G es ρ S0) (fun xs S1 => WR (evs C G ks ρ S1) (fun ys S2 => optP (permL (xs ++ ys) perm) fun zs => WR (C i zs S2) Q E) E) E) E := by
  show WR (R.bind _ fun g S0 => _) Q E = _
  rw [wp_bind]
  congr 1
  funext g S0
  cases fnIx t g with
  | none => rfl
  | some i =>
    show WR (R.bind _ fun xs S1 => R.bind _ _) Q E = _
    simp only [wp_bind]
    show _ = WR _ _ _
    congr 1
    funext x S1
    congr 1
    funext y S2
    cases permL (x ++ y) perm <;> rfl
@[simp ↓] theorem w_mt {m : Mt} {o es : Xp} : WR (ev C G (.mt m o es) ρ S) Q E = WR (ev C G o ρ S) (fun x S1 => isLst x S1 = true ∧ WR (evs C G es ρ S1) (fun xs S2 => WR (mtD m x xs S2) Q E) E) E := by
  show WR (R.bind _ fun x S1 => _) Q E = _
  rw [wp_bind]
  congr 1
  funext x S1
  cases h : isLst x S1 with
  | false => simp
  | true => simp [wp_bind]
@[simp ↓] theorem w_ix : WR (ev C G (.ix a b) ρ S) Q E = WR (ev C G a ρ S) (fun x S1 => WR (ev C G b ρ S1) (fun y S2 => optP (ixD x y S2) fun z => Q z S2) E) E := by
  show WR (R.bind _ fun x S1 => R.bind _ _) Q E = _
  simp only [wp_bind, w_opt]
@[simp ↓] theorem w_gdx {t : List (Str × D)} : WR (ev C G (.gdx t a) ρ S) Q E = WR (ev C G a ρ S) (fun x S1 => gdP t x fun z => Q z S1) E := by
  show WR (R.bind _ fun x S1 => _) Q E = _
  rw [wp_bind]
  congr 1
  funext x S1
  cases x with
  | str z => exact w_opt
  | _ => rfl
@[simp ↓] theorem w_sl {l h : Xp} : WR (ev C G (.sl a l h) ρ S) Q E = WR (ev C G a ρ S) (fun x S1 => WR (evp C G l ρ S1) (fun y S2 => WR (evp C G h ρ S2) (fun z S3 => WR (slD x y z S3) Q E) E) E) E := by
  show WR (R.bind _ fun x S1 => R.bind _ fun y S2 => R.bind _ _) Q E = _
  simp only [wp_bind]
@[simp ↓] theorem w_frz : WR (ev C G (.frzv a) ρ S) Q E = WR (ev C G a ρ S) (fun x S1 => WR (trim S (frzD x S1)) Q E) (fun c p S1 => E c p (cutS S (ltL S.length p) S1)) := by
  show WR (trim S (R.bind _ _)) Q E = _
  rw [wp_trim, wp_bind]
  simp only [wp_trim]
@[simp ↓] theorem w_rev : WR (ev C G (.rev a) ρ S) Q E = WR (ev C G a ρ S) (fun x S1 => WR (revD x S1) Q E) E := by
  show WR (R.bind _ _) Q E = _
  rw [wp_bind]
@[simp ↓] theorem w_tup {es : Xp} : WR (ev C G (.tup es) ρ S) Q E = WR (evs C G es ρ S) (fun xs S1 => xs.length ≤ 1000 ∧ Q (.tup xs) S1) E := by
  show WR (R.bind _ _) Q E = _
  rw [wp_bind]
  congr 1
  funext x S1
  by_cases h : x.length ≤ 1000
  · simp [h]
  · simp [h]
@[simp ↓] theorem w_lst {es : Xp} : WR (ev C G (.lst es) ρ S) Q E = WR (evs C G es ρ S) (fun xs S1 => xs.length ≤ 1000 ∧ Q (.loc S1.length) (S1 ++ [.lst xs])) E := by
  show WR (R.bind _ _) Q E = _
  rw [wp_bind]
  congr 1
  funext x S1
  by_cases h : x.length ≤ 1000
  · simp [h]
  · simp [h]
@[simp ↓] theorem w_lc {it tg el cd : Xp} {vs : List Nat} : WR (ev C G (.lc it tg el cd vs) ρ S) Q E = WR (evi C G it ρ S) (fun src S1 => WR (lcl src tg (fun ρ1 S2 => asT (ev C G cd ρ1 S2)) (fun ρ1 S2 => ev C G el ρ1 S2) (wipeE ρ vs) (src.size S1 + 1) 0 [] S1) (fun ds S2 => Q (.loc S2.length) (S2 ++ [.lst ds])) E) E := by
  show WR (R.bind _ fun x S1 => R.bind _ _) Q E = _
  simp only [wp_bind, w_mk]
@[simp ↓] theorem w_lc2 {it tg cd it1 tg1 cd1 el : Xp} {vs vs1 : List Nat} : WR (ev C G (.lc2 it tg cd it1 tg1 cd1 el vs vs1) ρ S) Q E = WR (evi C G it ρ S) (fun src S1 => WR (lcl2 src tg (fun ρ1 S2 => asT (ev C G cd ρ1 S2)) (fun ρ1 acc S2 => match evi C G it1 ρ1 S2 with
      | .ok src1 S3 => lcl src1 tg1 (fun ρ2 S4 => asT (ev C G cd1 ρ2 S4)) (fun ρ2 S4 => ev C G el ρ2 S4) (wipeE ρ1 vs1) (src1.size S3 + 1) 0 acc S3
      | _ => .bad) (wipeE ρ vs) (src.size S1 + 1) 0 [] S1) (fun ds S2 => Q (.loc S2.length) (S2 ++ [.lst ds])) E) E := by
  show WR (R.bind _ fun x S1 => R.bind _ _) Q E = _
  simp only [wp_bind, w_mk] <;> rfl
@[simp ↓] theorem w_evs_nil {Q : List D → Sto → Prop} : WR (evs C G .nil ρ S) Q E = Q [] S := rfl
@[simp ↓] theorem w_evs_cons {Q : List D → Sto → Prop} : WR (evs C G (.cons a b) ρ S) Q E = WR (ev C G a ρ S) (fun x S1 => WR (evs C G b ρ S1) (fun xs S2 => Q (x :: xs) S2) E) E := by
  show WR (R.bind _ fun x S1 => R.bind _ _) Q E = _
  simp only [wp_bind, w_ok]
@[simp ↓] theorem w_evp_nil {Q : Option Int → Sto → Prop} : WR (evp C G .nil ρ S) Q E = Q none S := rfl
@[simp ↓] theorem w_evp_cons {Q : Option Int → Sto → Prop} : WR (evp C G (.cons a b) ρ S) Q E = WR (ev C G a ρ S) (fun x S1 => asIP x fun i => Q (some i) S1) E := by
  show WR (R.bind (asI _) _) Q E = _
  rw [wp_bind, w_asI]
  rfl
variable {Q' : Src → Sto → Prop}
@[simp ↓] theorem w_itr : WR (evi C G (.itr a) ρ S) Q' E = WR (ev C G a ρ S) (fun x S1 => optP (srcOf x S1) fun s => Q' s S1) E := by
  show WR (R.bind _ _) Q' E = _
  simp only [wp_bind, w_opt]
theorem if_bad {α : Type} {p : Prop} [Decidable p] {x : R α} {Q : α → Sto → Prop} : WR (if p then x else .bad) Q E = (p ∧ WR x Q E) := by by_cases h : p <;> simp [h]
@[simp ↓] theorem w_rng1 : WR (evi C G (.rng1 a) ρ S) Q' E = WR (ev C G a ρ S) (fun x S1 => asIP x fun i => small62 i = true ∧ Q' (.ds (rangeD 0 i.toNat)) S1) E := by
  show WR (R.bind (asI _) _) Q' E = _
  simp only [wp_bind, w_asI, if_bad, w_ok]
@[simp ↓] theorem w_rng2 : WR (evi C G (.rng2 a b) ρ S) Q' E = WR (ev C G a ρ S) (fun x S1 => asIP x fun i => WR (ev C G b ρ S1) (fun y S2 => asIP y fun j => (small62 i && small62 j) = true ∧ Q' (.ds (rangeD i (j - i).toNat)) S2) E) E := by
  show WR (R.bind (asI _) fun i S1 => R.bind (asI _) _) Q' E = _
  simp only [wp_bind, w_asI, if_bad, w_ok]
def zipP (x y : D) (S : Sto) (Q : Src → Prop) : Prop := match x, y with
  | .loc n, .loc k => (lstAt S n).isSome = true ∧ (lstAt S k).isSome = true ∧ Q (.zip n k)
  | .tup xs, .tup ys => Q (.ds ((xs.zip ys).map fun p => .tup [p.1, p.2]))
  | .fl xs, .fl ys => Q (.ds ((xs.zip ys).map fun p => .tup [p.1, p.2]))
  | .fl xs, .tup ys => Q (.ds ((xs.zip ys).map fun p => .tup [p.1, p.2]))
  | .loc n, .fl ys => (lstAt S n).isSome = true ∧ Q (.zipF n ys)
  | _, _ => False
@[simp] theorem zipP_loc {n k : Nat} {Q : Src → Prop} : zipP (.loc n) (.loc k) S Q = ((lstAt S n).isSome = true ∧ (lstAt S k).isSome = true ∧ Q (.zip n k)) := rfl
@[simp] theorem zipP_tup {xs ys : List D} {Q : Src → Prop} : zipP (.tup xs) (.tup ys) S Q = Q (.ds ((xs.zip ys).map fun p => .tup [p.1, p.2])) := rfl
@[simp] theorem zipP_lf {n : Nat} {ys : List D} {Q : Src → Prop} : zipP (.loc n) (.fl ys) S Q = ((lstAt S n).isSome = true ∧ Q (.zipF n ys)) := rfl
@[simp] theorem zipP_fl {xs ys : List D} {Q : Src → Prop} : zipP (.fl xs) (.fl ys) S Q = Q (.ds ((xs.zip ys).map fun p => .tup [p.1, p.2])) := rfl
@[simp] theorem zipP_ft {xs ys : List D} {Q : Src → Prop} : zipP (.fl xs) (.tup ys) S Q = Q (.ds ((xs.zip ys).map fun p => .tup [p.1, p.2])) := rfl
@[simp ↓] theorem w_zip2 : WR (evi C G (.zip2 a b) ρ S) Q' E = WR (ev C G a ρ S) (fun x S1 => WR (ev C G b ρ S1) (fun y S2 => zipP x y S2 fun s => Q' s S2) E) E := by
  show WR (R.bind _ fun x S1 => R.bind _ _) Q' E = _
  simp only [wp_bind]
  congr 1
  funext x S1
  congr 1
  funext y S2
  cases x with
  | loc n =>
    cases y with
    | loc k =>
      show WR (match lstAt S2 n, lstAt S2 k with
      | some _, some _ => .ok (.zip n k) S2
      | _, _ => .bad) Q' E = _
      rw [zipP_loc]
      cases lstAt S2 n <;> cases lstAt S2 k <;> simp
    | fl ys =>
      show WR (match lstAt S2 n with
      | some _ => .ok (.zipF n ys) S2
      | none => .bad) Q' E = _
      rw [zipP_lf]
      cases lstAt S2 n <;> simp
    | _ => rfl
  | tup xs => cases y <;> rfl
  | fl xs => cases y <;> rfl
  | _ => rfl
def enumP (x : D) (S : Sto) (Q : Src → Prop) : Prop := match x with
  | .loc n => (lstAt S n).isSome = true ∧ Q (.enum n)
  | .fl ds => Q (.ds (enumL 0 ds))
  | _ => False
@[simp] theorem enumP_loc {n : Nat} {Q : Src → Prop} : enumP (.loc n) S Q = ((lstAt S n).isSome = true ∧ Q (.enum n)) := rfl
@[simp] theorem enumP_fl {ds : List D} {Q : Src → Prop} : enumP (.fl ds) S Q = Q (.ds (enumL 0 ds)) := rfl
@[simp ↓] theorem w_enum : WR (evi C G (.enum a) ρ S) Q' E = WR (ev C G a ρ S) (fun x S1 => enumP x S1 fun s => Q' s S1) E := by
  show WR (R.bind _ fun x S1 => _) Q' E = _
  rw [wp_bind]
  congr 1
  funext x S1
  cases x with
  | loc n =>
    show WR (match lstAt S1 n with
      | some _ => .ok (.enum n) S1
      | none => .bad) Q' E = _
    rw [enumP_loc]
    cases lstAt S1 n <;> simp
  | _ => rfl
end
section
variable {S : Sto} {Q : D → Sto → Prop} {E : Nat → List D → Sto → Prop} {i j : Int}
@[simp ↓] theorem b_addI : binD .Add (.int i) (.int j) S = .ok (.int (i + j)) S := rfl
@[simp ↓] theorem b_subI : binD .Sub (.int i) (.int j) S = .ok (.int (i - j)) S := rfl
@[simp ↓] theorem b_mulI : WR (binD .Mult (.int i) (.int j) S) Q E = (mulOk i j = true ∧ Q (.int (i * j)) S) := by show WR (if _ then _ else .bad) Q E = _; rw [if_bad]; rfl
@[simp ↓] theorem b_divI : WR (binD .FloorDiv (.int i) (.int j) S) Q E = (divOk j = true ∧ Q (.int (i / j)) S) := by show WR (if _ then _ else .bad) Q E = _; rw [if_bad]; rfl
@[simp ↓] theorem b_modI : WR (binD .Mod (.int i) (.int j) S) Q E = (0 < j ∧ Q (.int (i % j)) S) := by show WR (if _ then _ else .bad) Q E = _; rw [if_bad]; simp
@[simp ↓] theorem b_powI : WR (binD .Pow (.int i) (.int j) S) Q E = (powOk i j = true ∧ Q (.int (i ^ j.toNat)) S) := by show WR (if _ then _ else .bad) Q E = _; rw [if_bad]; rfl
@[simp ↓] theorem b_addS {x y : Str} : WR (binD .Add (.str x) (.str y) S) Q E = (x.length + y.length ≤ sizeLine ∧ Q (.str (x ++ y)) S) := by show WR (if _ then _ else .bad) Q E = _; rw [if_bad]; rfl
@[simp ↓] theorem b_addT {x y : List D} : WR (binD .Add (.tup x) (.tup y) S) Q E = (x.length + y.length ≤ sizeLine ∧ Q (.tup (x ++ y)) S) := by show WR (if _ then _ else .bad) Q E = _; rw [if_bad]; rfl
def catP (o p : Option (List D)) (f : List D → Prop) : Prop := match o, p with
  | some a, some b => a.length + b.length ≤ sizeLine ∧ f (a ++ b)
  | _, _ => False
@[simp] theorem catP_some {a b : List D} {f : List D → Prop} : catP (some a) (some b) f = (a.length + b.length ≤ sizeLine ∧ f (a ++ b)) := rfl
theorem w_cat {o p : Option (List D)} : WR (catD o p S) Q E = catP o p fun ds => Q (.loc S.length) (S ++ [.lst ds]) := by
  cases o with
  | none => cases p <;> rfl
  | some a =>
    cases p with
    | none => rfl
    | some b => show WR (if _ then _ else .bad) Q E = _; rw [if_bad]; rfl
@[simp ↓] theorem b_catF {a b : List D} : WR (binD .Add (.fl a) (.fl b) S) Q E = (a.length + b.length ≤ sizeLine ∧ Q (.loc S.length) (S ++ [.lst (a ++ b)])) := w_cat (o := some a) (p := some b)
@[simp ↓] theorem b_catL {n : Nat} {b : D} : WR (binD .Add (.loc n) b S) Q E = catP (lstM S (.loc n)) (lstM S b) fun ds => Q (.loc S.length) (S ++ [.lst ds]) := by
  cases b <;> exact w_cat
@[simp ↓] theorem b_catR {n : Nat} {a : List D} : WR (binD .Add (.fl a) (.loc n) S) Q E = catP (some a) (lstM S (.loc n)) fun ds => Q (.loc S.length) (S ++ [.lst ds]) := w_cat (o := some a)
def repP' (o : Option (List D)) (k : Int) (f : List D → Prop) : Prop := match o with
  | some a => (decide (-(2 ^ 63) ≤ k) && decide (k < 2 ^ 63) && decide (a.length * k.toNat ≤ sizeLine)) = true ∧ f (List.replicate k.toNat a).flatten
  | none => False
@[simp] theorem repP'_some {a : List D} {k : Int} {f : List D → Prop} : repP' (some a) k f = ((decide (-(2 ^ 63) ≤ k) && decide (k < 2 ^ 63) && decide (a.length * k.toNat ≤ sizeLine)) = true ∧ f (List.replicate k.toNat a).flatten) := rfl
@[simp ↓] theorem b_repL {n : Nat} {k : Int} : WR (binD .Mult (.loc n) (.int k) S) Q E = repP' (lstW S (.loc n)) k fun ds => Q (.loc S.length) (S ++ [.lst ds]) := by
  show WR (repL (lstW S (.loc n)) k S) Q E = _
  cases lstW S (.loc n) with
  | none => rfl
  | some a => show WR (if _ then _ else .bad) Q E = _; rw [if_bad]; rfl
@[simp] theorem lstM_fl {ds : List D} : lstM S (.fl ds) = some ds := rfl
@[simp] theorem lstD_fl {ds : List D} : lstD S (.fl ds) = some ds := rfl
@[simp] theorem lstD_loc {n : Nat} : lstD S (.loc n) = lstAt S n := rfl
@[simp] theorem dicD_fd {ks : List Key} {ds : List D} : dicD S (.fd ks ds) = some (ks.zip ds) := rfl
@[simp] theorem dicD_loc {n : Nat} : dicD S (.loc n) = dicAt S n := rfl
@[simp] theorem t_fl {ds : List D} : truth (.fl ds) S = some (!ds.isEmpty) := rfl
@[simp] theorem t_bl {k : Bool} : truth (.bl k) S = some k := rfl
@[simp] theorem t_int : truth (.int i) S = some (i != 0) := rfl
@[simp] theorem t_tup {ds : List D} : truth (.tup ds) S = some (!ds.isEmpty) := rfl
@[simp] theorem t_non : truth .non S = some false := rfl
@[simp] theorem c_eqI : cmpD .Eq (.int i) (.int j) S = some (i == j) := rfl
@[simp] theorem c_eqS {x y : Str} : cmpD .Eq (.str x) (.str y) S = some (x == y) := rfl
@[simp] theorem c_neI : cmpD .NotEq (.int i) (.int j) S = some (!(i == j)) := rfl
@[simp] theorem c_neS {x y : Str} : cmpD .NotEq (.str x) (.str y) S = some (!(x == y)) := rfl
@[simp] theorem c_lt : cmpD .Lt (.int i) (.int j) S = some (decide (i < j)) := rfl
@[simp] theorem c_le : cmpD .LtE (.int i) (.int j) S = some (decide (i ≤ j)) := rfl
@[simp] theorem c_gt : cmpD .Gt (.int i) (.int j) S = some (decide (j < i)) := rfl
@[simp] theorem c_ge : cmpD .GtE (.int i) (.int j) S = some (decide (j ≤ i)) := rfl
@[simp] theorem c_isN {x : D} : cmpD .Is x .non S = some (isNon x) := rfl
@[simp] theorem c_notN {x : D} : cmpD .IsNot x .non S = some (!isNon x) := rfl
@[simp] theorem c_inT {x : D} {ds : List D} : cmpD .In x (.tup ds) S = inSeq x ds := rfl
@[simp] theorem c_ninT {x : D} {ds : List D} : cmpD .NotIn x (.tup ds) S = (inSeq x ds).map (!·) := rfl
@[simp] theorem l_fl {ds : List D} : lenD (.fl ds) S = some ds.length := rfl
@[simp] theorem x_fl {ds : List D} : ixD (.fl ds) (.int i) S = atI ds i := rfl
@[simp] theorem x_fd {ks : List Key} {ds : List D} {y : D} : ixD (.fd ks ds) y S = (kD y).bind fun k => valA (ks.zip ds) k := rfl
@[simp] theorem so_fl {ds : List D} : srcOf (.fl ds) S = some (.ds ds) := rfl
@[simp ↓] theorem sl_flW {ds : List D} {l h : Option Int} : slD (.fl ds) l h S = mk (.lst (cut ds l h)) S := rfl
@[simp ↓] theorem rev_flW {ds : List D} : revD (.fl ds) S = mk (.lst ds.reverse) S := rfl
@[simp ↓] theorem rev_tupW {ds : List D} : revD (.tup ds) S = .ok (.tup ds.reverse) S := rfl
@[simp] theorem l_tup {ds : List D} : lenD (.tup ds) S = some ds.length := rfl
@[simp] theorem l_loc {n : Nat} : lenD (.loc n) S = lenL (lstAt S n) (dicAt S n) (dnAt S n) := rfl
@[simp] theorem lenL_some {ds : List D} {o : Option (List (Key × D))} {q : Option (List (NestedKey × D))} : lenL (some ds) o q = some ds.length := rfl
@[simp] theorem lenL_none {kvs : List (Key × D)} {q : Option (List (NestedKey × D))} : lenL none (some kvs) q = some kvs.length := rfl
@[simp] theorem lenL_dn {kvs : List (NestedKey × D)} : lenL none none (some kvs) = some kvs.length := rfl
@[simp] theorem x_tup {ds : List D} : ixD (.tup ds) (.int i) S = atI ds i := rfl
@[simp] theorem x_loc {n : Nat} : ixD (.loc n) (.int i) S = ixL (lstAt S n) (dicAt S n) (dnAt S n) (.int i) := rfl
@[simp] theorem x_locS {n : Nat} {z : Str} : ixD (.loc n) (.str z) S = ixL (lstAt S n) (dicAt S n) (dnAt S n) (.str z) := rfl
@[simp] theorem x_locT {n : Nat} {z : List D} : ixD (.loc n) (.tup z) S = ixL (lstAt S n) (dicAt S n) (dnAt S n) (.tup z) := rfl
@[simp] theorem ixL_some {ds : List D} {o : Option (List (Key × D))} {q : Option (List (NestedKey × D))} : ixL (some ds) o q (.int i) = atI ds i := rfl
@[simp] theorem ixL_none {kvs : List (Key × D)} {q : Option (List (NestedKey × D))} {y : D} : ixL none (some kvs) q y = (kD y).bind fun k => valA kvs k := rfl
@[simp] theorem ixL_dn {kvs : List (NestedKey × D)} {y : D} : ixL none none (some kvs) y = (kT y).bind fun k => valA kvs k := rfl
@[simp] theorem x_fm {ks : List NestedKey} {ds : List D} {y : D} : ixD (.fm ks ds) y S = (kT y).bind fun k => valA (ks.zip ds) k := rfl
@[simp ↓] theorem w_dnn {C : CallSem} {G : Nat → Option D} {ρ : Env} : WR (ev C G .dnn ρ S) Q E = Q (.loc S.length) (S ++ [.dn []]) := rfl
@[simp ↓] theorem w_dnew {C : CallSem} {G : Nat → Option D} {ρ : Env} : WR (ev C G .dnew ρ S) Q E = Q (.loc S.length) (S ++ [.dic []]) := rfl
@[simp ↓] theorem bi_lenW {x : D} : WR (biD .len [x] S) Q E = optP (lenD x S) fun n => Q (.int n) S := by show WR (R.opt _ S) Q E = _; rw [w_opt]; cases lenD x S <;> rfl
@[simp ↓] theorem bi_isxW {c : Nat} {ps : List D} {t : D} : WR (biD .isx [.exn c ps, t] S) Q E = optP (isX c t) fun b => Q (.bl b) S := by show WR (R.opt _ S) Q E = _; rw [w_opt, optP_map]
@[simp] theorem isX_cls {c k : Nat} : isX c (.cls k) = some (subX c k) := rfl
@[simp] theorem isX_val {c : Nat} : isX c (.ty "ValueError") = some true := rfl
@[simp] theorem isX1_cls {c k : Nat} : isX1 c (.cls k) = some (subX c k) := rfl
@[simp] theorem isX_tup {c : Nat} {ts : List D} : isX c (.tup ts) = isXL c ts := rfl
@[simp] theorem isXL_nil {c : Nat} : isXL c [] = some false := rfl
@[simp] theorem isXL_cons {c : Nat} {t : D} {ts : List D} : isXL c (t :: ts) = (isX1 c t).bind fun b => (isXL c ts).map fun e => b || e := rfl
@[simp ↓] theorem bi_strI : WR (biD .str [.int i] S) Q E = (i.natAbs.log2 < 1900 ∧ Q (.str (toString i)) S) := by
  show WR (if decide (i.natAbs.log2 < 1900) then .ok (.str (toString i)) S else .bad) Q E = _
  by_cases h : i.natAbs.log2 < 1900 <;> simp [h, WR]
@[simp ↓] theorem bi_isW {x t : D} : WR (biD .isinst [x, t] S) Q E = optP (isinst x t S) fun b => Q (.bl b) S := by show WR (R.opt _ S) Q E = _; rw [w_opt, optP_map]
@[simp ↓] theorem bi_absW : biD .abs [.int i] S = .ok (.int (if i < 0 then -i else i)) S := rfl
@[simp ↓] theorem bi_maxW : biD .max [.int i, .int j] S = .ok (.int (if j > i then j else i)) S := rfl
@[simp ↓] theorem bi_minW : biD .min [.int i, .int j] S = .ok (.int (if j < i then j else i)) S := rfl
@[simp ↓] theorem bi_intI : biD .int [.int i] S = .ok (.int i) S := rfl
@[simp ↓] theorem bi_intB {k : Bool} : biD .int [.bl k] S = .ok (.int (if k then 1 else 0)) S := rfl
@[simp ↓] theorem bi_sumW {x : D} : WR (biD .sum [x] S) Q E = optP ((lstD S x).bind intsOf) fun ns => Q (.int ns.sum) S := by show WR (R.opt _ S) Q E = _; rw [w_opt, optP_map]
@[simp ↓] theorem bi_sortedW {x : D} : WR (biD .sorted [x] S) Q E = optP ((lstD S x).bind intsOf) fun ns => Q (.loc S.length) (S ++ [.lst ((isort ns).map D.int)]) := by
  show WR (match (lstD S x).bind intsOf with
    | some ns => mk (.lst ((isort ns).map D.int)) S
    | none => .bad) Q E = _
  cases (lstD S x).bind intsOf <;> rfl
@[simp ↓] theorem bi_sortdW {x : D} : WR (biD .sortd [x] S) Q E = optP ((dicD S x).bind keysI) fun ns => Q (.loc S.length) (S ++ [.lst ((isort ns).map D.int)]) := by
  show WR (match (dicD S x).bind keysI with
    | some ns => mk (.lst ((isort ns).map D.int)) S
    | none => .bad) Q E = _
  cases (dicD S x).bind keysI <;> rfl
@[simp ↓] theorem bi_listnW {x : D} : WR (biD .listn [x] S) Q E = optP (dnD S x) fun kvs => Q (.loc S.length) (S ++ [.lst (kvs.map fun kv => nD kv.1)]) := by
  show WR (match dnD S x with
    | some kvs => mk (.lst (kvs.map fun kv => nD kv.1)) S
    | none => .bad) Q E = _
  cases dnD S x <;> rfl
@[simp ↓] theorem bi_allW {x : D} : WR (biD .all [x] S) Q E = optP ((lstD S x).bind blsOf) fun ns => Q (.bl (ns.all id)) S := by show WR (R.opt _ S) Q E = _; rw [w_opt, optP_map]
@[simp ↓] theorem bi_anyW {x : D} : WR (biD .any [x] S) Q E = optP ((lstD S x).bind blsOf) fun ns => Q (.bl (ns.any id)) S := by show WR (R.opt _ S) Q E = _; rw [w_opt, optP_map]
@[simp ↓] theorem bi_reprW {x : D} : WR (biD .repr [x] S) Q E = optP (repD x S) fun z => Q z S := by show WR (R.opt _ S) Q E = _; rw [w_opt]
@[simp ↓] theorem bi_tupW {n : Nat} : WR (biD .tuple [.loc n] S) Q E = optP (lstAt S n) fun ds => Q (.tup ds) S := by
  show WR (match lstAt S n with
    | some ds => .ok (.tup ds) S
    | none => .bad) Q E = _
  cases lstAt S n <;> rfl
@[simp ↓] theorem bi_tupF {ds : List D} : biD .tuple [.fl ds] S = .ok (.tup ds) S := rfl
@[simp ↓] theorem bi_tupT {ds : List D} : biD .tuple [.tup ds] S = .ok (.tup ds) S := rfl
@[simp ↓] theorem bi_lstW {n : Nat} : WR (biD .list [.loc n] S) Q E = optP (lstAt S n) fun ds => Q (.loc S.length) (S ++ [.lst ds]) := by
  show WR (match lstAt S n with
    | some ds => mk (.lst ds) S
    | none => .bad) Q E = _
  cases lstAt S n <;> rfl
@[simp ↓] theorem bi_lstF {ds : List D} : WR (biD .list [.fl ds] S) Q E = Q (.loc S.length) (S ++ [.lst ds]) := rfl
@[simp ↓] theorem bi_lstT {ds : List D} : WR (biD .list [.tup ds] S) Q E = Q (.loc S.length) (S ++ [.lst ds]) := rfl
def mostP (o : Option (List Int)) (f : Int → List Int → Prop) : Prop := match o with
  | some (x :: r) => f x r
  | _ => False
@[simp] theorem mostP_some {x : Int} {r : List Int} {f : Int → List Int → Prop} : mostP (some (x :: r)) f = f x r := rfl
@[simp ↓] theorem bi_maxF {ds : List D} : WR (biD .max [.fl ds] S) Q E = mostP (intsOf ds) fun x r => Q (.int (mostI x r)) S := by
  show WR (match intsOf ds with
    | some (x :: r) => .ok (.int (mostI x r)) S
    | _ => .bad) Q E = _
  cases intsOf ds with
  | none => rfl
  | some l => cases l <;> rfl
@[simp ↓] theorem bi_minF {ds : List D} : WR (biD .min [.fl ds] S) Q E = mostP (intsOf ds) fun x r => Q (.int (leastI x r)) S := by
  show WR (match intsOf ds with
    | some (x :: r) => .ok (.int (leastI x r)) S
    | _ => .bad) Q E = _
  cases intsOf ds with
  | none => rfl
  | some l => cases l <;> rfl
@[simp ↓] theorem bi_maxT {ds : List D} : WR (biD .max [.tup ds] S) Q E = mostP (intsOf ds) fun x r => Q (.int (mostI x r)) S := by
  show WR (match intsOf ds with
    | some (x :: r) => .ok (.int (mostI x r)) S
    | _ => .bad) Q E = _
  cases intsOf ds with
  | none => rfl
  | some l => cases l <;> rfl
@[simp ↓] theorem bi_minT {ds : List D} : WR (biD .min [.tup ds] S) Q E = mostP (intsOf ds) fun x r => Q (.int (leastI x r)) S := by
  show WR (match intsOf ds with
    | some (x :: r) => .ok (.int (leastI x r)) S
    | _ => .bad) Q E = _
  cases intsOf ds with
  | none => rfl
  | some l => cases l <;> rfl
@[simp] theorem intsOf_nil : intsOf [] = some [] := rfl
@[simp] theorem intsOf_cons {i : Int} {r : List D} : intsOf (.int i :: r) = (intsOf r).map (i :: ·) := rfl
@[simp] theorem leastI_nil {i : Int} : leastI i [] = i := rfl
@[simp] theorem leastI_cons {i j : Int} {r : List Int} : leastI i (j :: r) = leastI (if j < i then j else i) r := rfl
@[simp] theorem mostI_nil {i : Int} : mostI i [] = i := rfl
@[simp] theorem mostI_cons {i j : Int} {r : List Int} : mostI i (j :: r) = mostI (if i < j then j else i) r := rfl
@[simp ↓] theorem sl_tupW {ds : List D} {l h : Option Int} : slD (.tup ds) l h S = .ok (.tup (cut ds l h)) S := rfl
@[simp] theorem so_tup {ds : List D} : srcOf (.tup ds) S = some (.ds ds) := rfl
@[simp] theorem so_str {z : Str} : srcOf (.str z) S = some (.ds (z.cps.toList.map fun c => .str ⟨#[c]⟩)) := rfl
@[simp] theorem so_loc {n : Nat} : srcOf (.loc n) S = (lstAt S n).map fun _ => .lst n := rfl
end
@[simp] theorem at0 {α : Type} {x : α} {r : List α} : atI (x :: r) 0 = some x := atI_nat (j := 0) rfl
@[simp] theorem at1 {α : Type} {x y : α} {r : List α} : atI (x :: y :: r) 1 = some y := atI_nat (j := 1) rfl
@[simp] theorem at2 {α : Type} {x y z : α} {r : List α} : atI (x :: y :: z :: r) 2 = some z := atI_nat (j := 2) rfl
@[simp] theorem at3 {α : Type} {x y z u : α} {r : List α} : atI (x :: y :: z :: u :: r) 3 = some u := atI_nat (j := 3) rfl
section
variable {n : Nat} {C : CallSem} {G : Nat → Option D} {ρ : Env} {S : Sto} {p : Po} {a b c : Xp} {A B : Sx}
theorem ofR_ws {α : Type} {r : R α} {f : α → Sto → Rs} : Ws (ofR r ρ f) p = WR r (fun x S1 => Ws (f x S1) p) (fun c q S1 => p.ex c q ρ S1) := by cases r <;> rfl
@[simp ↓] theorem s_nx : Ws (.nx ρ S) p = p.nx ρ S := rfl
@[simp ↓] theorem s_rt {d : D} : Ws (.rt d S) p = p.rt d S := rfl
@[simp ↓] theorem s_bad : Ws .bad p = False := rfl
@[simp ↓] theorem s_pass : Ws (run n C G .pass ρ S) p = p.nx ρ S := rfl
@[simp ↓] theorem s_brk : Ws (run n C G .brk ρ S) p = p.bk ρ S := rfl
@[simp ↓] theorem s_cont : Ws (run n C G .cont ρ S) p = p.ct ρ S := rfl
@[simp ↓] theorem s_nil : Ws (run n C G .nil ρ S) p = p.nx ρ S := rfl
@[simp ↓] theorem s_cons : Ws (run n C G (.cons A B) ρ S) p = Ws (run n C G A ρ S) { p with nx := fun ρ1 S1 => Ws (run n C G B ρ1 S1) p } := by
  show Ws (match run n C G A ρ S with
    | .nx ρ1 S1 => run n C G B ρ1 S1
    | r => r) p = _
  cases run n C G A ρ S <;> rfl
@[simp ↓] theorem s_ex : Ws (run n C G (.ex a) ρ S) p = WR (ev C G a ρ S) (fun _ S1 => p.nx ρ S1) (fun c q S1 => p.ex c q ρ S1) := by
  show Ws (ofR _ _ _) p = _
  rw [ofR_ws]
  rfl
@[simp ↓] theorem s_ret : Ws (run n C G (.ret a) ρ S) p = WR (ev C G a ρ S) (fun d S1 => p.rt d S1) (fun c q S1 => p.ex c q ρ S1) := by
  show Ws (ofR _ _ _) p = _
  rw [ofR_ws]
  rfl
@[simp ↓] theorem s_asgV {i : Nat} : Ws (run n C G (.asg (.var i) a) ρ S) p = WR (ev C G a ρ S) (fun d S1 => p.nx (ρ.set i (some d)) S1) (fun c q S1 => p.ex c q ρ S1) := by
  show Ws (ofR _ _ _) p = _
  rw [ofR_ws]
  rfl
@[simp ↓] theorem s_asgT {t : Xp} : Ws (run n C G (.asg (.tup t) a) ρ S) p = WR (ev C G a ρ S) (fun d S1 => optP (bindT (.tup t) d ρ) fun ρ1 => p.nx ρ1 S1) (fun c q S1 => p.ex c q ρ S1) := by
  show Ws (ofR _ _ _) p = _
  rw [ofR_ws]
  congr 1
  funext d S1
  show Ws (match bindT (.tup t) d ρ with
    | some ρ1 => .nx ρ1 S1
    | none => .bad) p = _
  cases bindT (.tup t) d ρ <;> rfl
@[simp ↓] theorem s_asgU {t : Xp} : Ws (run n C G (.asg (.lst t) a) ρ S) p = WR (ev C G a ρ S) (fun d S1 => optP (bindT (.lst t) d ρ) fun ρ1 => p.nx ρ1 S1) (fun c q S1 => p.ex c q ρ S1) := by
  show Ws (ofR _ _ _) p = _
  rw [ofR_ws]
  congr 1
  funext d S1
  show Ws (match bindT (.lst t) d ρ with
    | some ρ1 => .nx ρ1 S1
    | none => .bad) p = _
  cases bindT (.lst t) d ρ <;> rfl
@[simp ↓] theorem s_asgI : Ws (run n C G (.asg (.ix a b) c) ρ S) p = WR (ev C G c ρ S) (fun d S1 => WR (ev C G a ρ S1) (fun x S2 => WR (ev C G b ρ S2) (fun y S3 => optP (setIx x y d S3) fun S4 => p.nx ρ S4) (fun c q S1 => p.ex c q ρ S1)) (fun c q S1 => p.ex c q ρ S1)) (fun c q S1 => p.ex c q ρ S1) := by
  show Ws (ofR _ _ _) p = _
  rw [ofR_ws]
  congr 1
  funext d S1
  show Ws (ofR _ _ fun x S1 => ofR _ _ _) p = _
  rw [ofR_ws]
  congr 1
  funext x S2
  rw [ofR_ws]
  congr 1
  funext y S3
  cases setIx x y d S3 <;> rfl
@[simp ↓] theorem s_asgS {l h : Xp} : Ws (run n C G (.asg (.sl a l h) c) ρ S) p = WR (ev C G c ρ S) (fun d S1 => WR (ev C G a ρ S1) (fun x S2 => WR (evp C G l ρ S2) (fun y S3 => WR (evp C G h ρ S3) (fun z S4 => optP (setSl x y z d S4) fun S5 => p.nx ρ S5) (fun c q S1 => p.ex c q ρ S1)) (fun c q S1 => p.ex c q ρ S1)) (fun c q S1 => p.ex c q ρ S1)) (fun c q S1 => p.ex c q ρ S1) := by
  show Ws (ofR _ _ _) p = _
  rw [ofR_ws]
  congr 1
  funext d S1
  show Ws (ofR _ _ fun x S1 => ofR _ _ fun y S2 => ofR _ _ _) p = _
  rw [ofR_ws]
  congr 1
  funext x S2
  rw [ofR_ws]
  congr 1
  funext y S3
  rw [ofR_ws]
  congr 1
  funext z S4
  cases setSl x y z d S4 <;> rfl
@[simp] theorem parE_nil {ρ : Env} : parE [] [] ρ = some ρ := rfl
@[simp] theorem parE_cons {j : Nat} {js : List Nat} {d : D} {ds : List D} {ρ : Env} : parE (j :: js) (d :: ds) ρ = parE js ds (ρ.set j (some d)) := rfl
@[simp ↓] theorem s_par {js : List Nat} : Ws (run n C G (.par js a) ρ S) p = WR (evs C G a ρ S) (fun ds S1 => optP (parE js ds ρ) fun ρ1 => p.nx ρ1 S1) (fun c q S1 => p.ex c q ρ S1) := by
  show Ws (ofR _ _ _) p = _
  rw [ofR_ws]
  congr 1
  funext ds S1
  cases parE js ds ρ <;> rfl
@[simp ↓] theorem s_aug {i : Nat} {op : Operator} : Ws (run n C G (.aug i op a) ρ S) p = optP (ρ[i]?.bind id) fun x => WR (ev C G a ρ S) (fun y S1 => WR (augD op x y S1) (fun z S2 => p.nx (ρ.set i (some z)) S2) (fun c q S1 => p.ex c q ρ S1)) (fun c q S1 => p.ex c q ρ S1) := by
  show Ws (match ρ[i]?.bind id with
    | some x => ofR (ev C G a ρ S) ρ fun y S1 => ofR (augD op x y S1) ρ fun z S2 => .nx (ρ.set i (some z)) S2
    | none => .bad) p = _
  cases ρ[i]?.bind id with
  | none => rfl
  | some x =>
    show Ws (ofR _ _ fun x S1 => ofR _ _ _) p = _
    rw [ofR_ws]
    simp only [ofR_ws]
    rfl
@[simp ↓] theorem s_augx {op : Operator} : Ws (run n C G (.augx a b op c) ρ S) p = WR (ev C G a ρ S) (fun x S1 => WR (ev C G b ρ S1) (fun y S2 => optP (dixD x y S2) fun old => WR (ev C G c ρ S2) (fun z S3 => WR (augD op old z S3) (fun r S4 => optP (setIx x y r S4) fun S5 => p.nx ρ S5) (fun c q S1 => p.ex c q ρ S1)) (fun c q S1 => p.ex c q ρ S1)) (fun c q S1 => p.ex c q ρ S1)) (fun c q S1 => p.ex c q ρ S1) := by
  show Ws (ofR _ _ fun x S1 => ofR _ _ fun y S2 => _) p = _
  rw [ofR_ws]
  congr 1
  funext x S1
  rw [ofR_ws]
  congr 1
  funext y S2
  cases dixD x y S2 with
  | none => rfl
  | some old =>
    show Ws (ofR _ _ fun z S3 => ofR _ _ _) p = _
    rw [ofR_ws]
    show _ = WR _ _ _
    congr 1
    funext z S3
    rw [ofR_ws]
    congr 1
    funext r S4
    cases setIx x y r S4 <;> rfl
@[simp ↓] theorem s_iff : Ws (run n C G (.iff c A B) ρ S) p = WR (ev C G c ρ S) (fun x S1 => selO (truth x S1) (Ws (run n C G A ρ S1) p) (Ws (run n C G B ρ S1) p)) (fun c q S1 => p.ex c q ρ S1) := by
  show Ws (ofR (asT _) _ _) p = _
  rw [ofR_ws, w_asT]
  congr 1
  funext x S1
  cases truth x S1 with
  | none => rfl
  | some t => cases t <;> rfl
@[simp ↓] theorem s_rse {k : Nat} : Ws (run n C G (.rse k a) ρ S) p = WR (evs C G a ρ S) (fun q S1 => p.ex k q ρ S1) (fun c q S1 => p.ex c q ρ S1) := by
  show Ws (ofR _ _ _) p = _
  rw [ofR_ws]
  rfl
@[simp ↓] theorem s_for {t it : Xp} : Ws (run n C G (.for_ t it A) ρ S) p = WR (evi C G it ρ S) (fun src S1 => Ws (forl src t (fun ρ S => run n C G A ρ S) (src.size S1 + 1) 0 ρ S1) p) (fun c q S1 => p.ex c q ρ S1) := by
  show Ws (ofR _ _ _) p = _
  rw [ofR_ws]
@[simp ↓] theorem s_whl : Ws (run n C G (.whl c A) ρ S) p = Ws (whl (fun ρ S => asT (ev C G c ρ S)) (fun ρ S => run n C G A ρ S) n ρ S) p := rfl
@[simp ↓] theorem s_tryA {cs : List (Nat × Bool)} {o : Option Nat} : Ws (run n C G (.tryA A o cs B) ρ S) p = Ws (run n C G A ρ S) { p with ex := fun c q ρ1 S1 => selO (cs.lookup c) (Ws (run n C G B (asE o (.exn c q) ρ1) S1) { nx := fun ρ S => p.nx (unO o ρ) S, bk := fun ρ S => p.bk (unO o ρ) S, ct := fun ρ S => p.ct (unO o ρ) S, rt := p.rt, ex := fun _ _ _ _ => False }) (p.ex c q ρ1 S1) } := by
  show Ws (match run n C G A ρ S with
    | .exc c' p ρ1 S1 => match cs.lookup c' with
      | some true => suiteR o (run n C G B (asE o (.exn c' p) ρ1) S1)
      | some false => .exc c' p ρ1 S1
      | none => .bad
    | r => r) p = _
  cases run n C G A ρ S with
  | exc c' q ρ1 S1 =>
    show Ws (match cs.lookup c' with
      | some true => suiteR o (run n C G B (asE o (.exn c' q) ρ1) S1)
      | some false => .exc c' q ρ1 S1
      | none => .bad) p = selO (cs.lookup c') _ (p.ex c' q ρ1 S1)
    cases cs.lookup c' with
    | none => rfl
    | some t =>
      cases t with
      | false => rfl
      | true =>
        show Ws (suiteR o (run n C G B (asE o (.exn c' q) ρ1) S1)) p = _
        cases run n C G B (asE o (.exn c' q) ρ1) S1 <;> rfl
  | _ => rfl
@[simp] theorem asE_some {i : Nat} {d : D} {ρ : Env} : asE (some i) d ρ = ρ.set i (some d) := rfl
@[simp] theorem asE_none {d : D} {ρ : Env} : asE none d ρ = ρ := rfl
@[simp] theorem unO_some {i : Nat} {ρ : Env} : unO (some i) ρ = ρ.set i none := rfl
@[simp] theorem unO_none {ρ : Env} : unO none ρ = ρ := rfl
@[simp ↓] theorem s_try {cs : List (Nat × Bool)} : Ws (run n C G (.tryS A cs B) ρ S) p = Ws (run n C G A ρ S) { p with ex := fun c q ρ1 S1 => selO (cs.lookup c) (Ws (run n C G B ρ1 S1) p) (p.ex c q ρ1 S1) } := by
  show Ws (match run n C G A ρ S with
    | .exc c' q ρ1 S1 => match cs.lookup c' with
      | some true => run n C G B ρ1 S1
      | some false => .exc c' q ρ1 S1
      | none => .bad
    | r => r) p = _
  cases run n C G A ρ S with
  | exc c' q ρ1 S1 =>
    show Ws (match cs.lookup c' with
      | some true => run n C G B ρ1 S1
      | some false => .exc c' q ρ1 S1
      | none => .bad) p = selO (cs.lookup c') (Ws (run n C G B ρ1 S1) p) (p.ex c' q ρ1 S1)
    cases cs.lookup c' with
    | none => rfl
    | some t => cases t <;> rfl
  | _ => rfl
theorem w_end {r : Rs} {Q : D → Sto → Prop} {E : Nat → List D → Sto → Prop} : WR (endR r) Q E = Ws r { nx := fun _ S => Q .non S, rt := Q, bk := fun _ _ => False, ct := fun _ _ => False, ex := fun c q _ S => E c q S } := by cases r <;> rfl
@[simp ↓] theorem a_addI {i j : Int} : augD .Add (.int i) (.int j) S = .ok (.int (i + j)) S := rfl
@[simp ↓] theorem a_subI {i j : Int} : augD .Sub (.int i) (.int j) S = .ok (.int (i - j)) S := rfl
end
theorem wp_lcl {src : Src} {tg : Xp} {cond : Env → Sto → R Bool} {elt : Env → Sto → R D} {ρ : Env} {Q : List D → Sto → Prop} {E : Nat → List D → Sto → Prop} (n : Nat) (I : Nat → List D → Sto → Prop)
    (go : ∀ i acc S, i < n → I i acc S → ∃ d ρ1, src.get i S = some (some d) ∧ bindT tg d ρ = some ρ1 ∧ WR (cond ρ1 S) (fun b S1 => if b = true then WR (elt ρ1 S1) (fun y S2 => acc.length < sizeLine ∧ I (i + 1) (acc ++ [y]) S2) Eo else I (i + 1) acc S1) Eo)
    (fin : ∀ acc S, I n acc S → src.get n S = some none ∧ Q acc S) : ∀ (f i : Nat) (acc : List D) (S : Sto), i ≤ n → n < i + f → I i acc S → WR (lcl src tg cond elt ρ f i acc S) Q E
  | 0, i, acc, S, h1, h2, _ => absurd h1 (by omega)
  | f + 1, i, acc, S, h1, h2, h => by
    show WR (match src.get i S with
      | none => .bad
      | some none => .ok acc S
      | some (some d) => match bindT tg d ρ with
        | none => .bad
        | some ρ1 => match cond ρ1 S with
          | .ok true S1 => match elt ρ1 S1 with
            | .ok y S2 => if acc.length < sizeLine then lcl src tg cond elt ρ f (i + 1) (acc ++ [y]) S2 else .bad
            | _ => .bad
          | .ok false S1 => lcl src tg cond elt ρ f (i + 1) acc S1
          | _ => .bad) Q E
    by_cases e : i = n
    · subst e
      obtain ⟨z1, z2⟩ := fin acc S h
      rw [z1]
      exact z2
    · obtain ⟨d, ρ1, z1, z2, z3⟩ := go i acc S (by omega) h
      rw [z1]
      simp only [z2]
      cases q : cond ρ1 S with
      | bad => rw [q] at z3; exact z3.elim
      | exc _ _ _ => rw [q] at z3; exact z3.elim
      | ok b S1 =>
        rw [q] at z3
        cases b with
        | false => exact wp_lcl n I go fin f (i + 1) acc S1 (by omega) (by omega) (by simpa using z3)
        | true =>
          have z4 : WR (elt ρ1 S1) (fun y S2 => acc.length < sizeLine ∧ I (i + 1) (acc ++ [y]) S2) Eo := by simpa using z3
          cases q2 : elt ρ1 S1 with
          | bad => rw [q2] at z4; exact z4.elim
          | exc _ _ _ => rw [q2] at z4; exact z4.elim
          | ok y S2 =>
            rw [q2] at z4
            simp only [q2]
            rw [if_pos z4.1]
            exact wp_lcl n I go fin f (i + 1) (acc ++ [y]) S2 (by omega) (by omega) z4.2
theorem ws_forl {src : Src} {tg : Xp} {b : Env → Sto → Rs} {p : Po} (n : Nat) (I : Nat → Env → Sto → Prop)
    (go : ∀ i ρ S, i < n → I i ρ S → ∃ d ρ1, src.get i S = some (some d) ∧ bindT tg d ρ = some ρ1 ∧ Ws (b ρ1 S) { nx := I (i + 1), ct := I (i + 1), bk := p.nx, rt := p.rt, ex := p.ex })
    (fin : ∀ ρ S, I n ρ S → src.get n S = some none ∧ p.nx ρ S) : ∀ (f i : Nat) (ρ : Env) (S : Sto), i ≤ n → n < i + f → I i ρ S → Ws (forl src tg b f i ρ S) p
  | 0, i, ρ, S, h1, h2, _ => absurd h1 (by omega)
  | f + 1, i, ρ, S, h1, h2, h => by
    show Ws (match src.get i S with
      | none => .bad
      | some none => .nx ρ S
      | some (some d) => match bindT tg d ρ with
        | none => .bad
        | some ρ1 => match b ρ1 S with
          | .nx ρ2 S2 => forl src tg b f (i + 1) ρ2 S2
          | .ct ρ2 S2 => forl src tg b f (i + 1) ρ2 S2
          | .bk ρ2 S2 => .nx ρ2 S2
          | r => r) p
    by_cases e : i = n
    · subst e
      obtain ⟨z1, z2⟩ := fin ρ S h
      rw [z1]
      exact z2
    · obtain ⟨d, ρ1, z1, z2, z3⟩ := go i ρ S (by omega) h
      rw [z1]
      simp only [z2]
      cases q : b ρ1 S with
      | bad => rw [q] at z3; exact z3.elim
      | exc _ _ _ _ => rw [q] at z3; exact z3
      | rt _ _ => rw [q] at z3; exact z3
      | bk _ _ => rw [q] at z3; exact z3
      | nx ρ2 S2 => rw [q] at z3; exact ws_forl n I go fin f (i + 1) ρ2 S2 (by omega) (by omega) z3
      | ct ρ2 S2 => rw [q] at z3; exact ws_forl n I go fin f (i + 1) ρ2 S2 (by omega) (by omega) z3
def Ext (S S' : Sto) : Prop := ∃ J, S' = S ++ J
theorem Ext.refl (S : Sto) : Ext S S := ⟨[], by simp⟩
theorem Ext.trans {S T U : Sto} (h : Ext S T) (k : Ext T U) : Ext S U := by
  obtain ⟨J, rfl⟩ := h
  obtain ⟨L, rfl⟩ := k
  exact ⟨J ++ L, by simp⟩
theorem Ext.push (S : Sto) (so : SO) : Ext S (S ++ [so]) := ⟨[so], rfl⟩
theorem Ext.to {S T : Sto} (h : Ext S T) (so : SO) : Ext S (T ++ [so]) := h.trans (.push T so)
theorem Ext.get {S T : Sto} (h : Ext S T) {n : Nat} {so : SO} (e : S[n]? = some so) : T[n]? = some so := by
  obtain ⟨J, rfl⟩ := h
  rw [List.getElem?_append_left (List.getElem?_eq_some_iff.mp e).1]
  exact e
theorem Ext.lst {S T : Sto} (h : Ext S T) {n : Nat} {ds : List D} (e : lstAt S n = some ds) : lstAt T n = some ds := by
  unfold lstAt at e ⊢
  cases q : S[n]? with
  | none => rw [q] at e; cases e
  | some so => rw [q] at e; rw [h.get q]; exact e
theorem Ext.le {S T : Sto} (h : Ext S T) : S.length ≤ T.length := by
  obtain ⟨J, rfl⟩ := h
  simp
@[simp] theorem get_new {S : Sto} {so : SO} : (S ++ [so])[S.length]? = some so := by simp
@[simp] theorem lst_new {S : Sto} {ds : List D} : lstAt (S ++ [.lst ds]) S.length = some ds := by simp [lstAt]
section
variable {C : CallSem} {G : Nat → Option D} {ρ : Env} {S : Sto} {Q : D → Sto → Prop} {Q' : Src → Sto → Prop} {E : Nat → List D → Sto → Prop} {a b c : Xp} {n : Nat} {p : Po} {A B : Sx}
@[simp ↓] theorem w_dget : WR (ev C G (.dget a b c) ρ S) Q E = WR (ev C G a ρ S) (fun x S1 => optP (dicD S1 x) fun _ => WR (ev C G b ρ S1) (fun y S2 => WR (ev C G c ρ S2) (fun z S3 => optP (dgetD x y z S3) fun r => Q r S3) E) E) E := by
  show WR (R.bind _ fun x S1 => _) Q E = _
  rw [wp_bind]
  congr 1
  funext x S1
  cases dicD S1 x with
  | none => rfl
  | some n =>
    show WR (R.bind _ fun y S2 => R.bind _ _) Q E = _
    simp only [wp_bind, w_opt]
    rfl
@[simp ↓] theorem w_dgetn : WR (ev C G (.dgetn a b c) ρ S) Q E = WR (ev C G a ρ S) (fun x S1 => optP (dnD S1 x) fun _ => WR (ev C G b ρ S1) (fun y S2 => WR (ev C G c ρ S2) (fun z S3 => optP (dgetnD x y z S3) fun r => Q r S3) E) E) E := by
  show WR (R.bind _ fun x S1 => _) Q E = _
  rw [wp_bind]
  congr 1
  funext x S1
  cases dnD S1 x with
  | none => rfl
  | some n =>
    show WR (R.bind _ fun y S2 => R.bind _ _) Q E = _
    simp only [wp_bind, w_opt]
    rfl
@[simp ↓] theorem w_dsetd : WR (ev C G (.dsetd a b c) ρ S) Q E = WR (ev C G a ρ S) (fun x S1 => optP (asDic x S1) fun n => WR (ev C G b ρ S1) (fun y S2 => WR (ev C G c ρ S2) (fun z S3 => WR (dsetdD n y z S3) Q E) E) E) E := by
  show WR (R.bind _ fun x S1 => _) Q E = _
  rw [wp_bind]
  congr 1
  funext x S1
  cases asDic x S1 with
  | none => rfl
  | some n =>
    show WR (R.bind _ fun y S2 => R.bind _ _) Q E = _
    simp only [wp_bind]
    rfl
@[simp ↓] theorem w_lix : WR (ev C G (.lix a b) ρ S) Q E = WR (ev C G a ρ S) (fun x S1 => (lstD S1 x).isSome = true ∧ WR (ev C G b ρ S1) (fun y S2 => optP (lixD x y S2) fun z => Q z S2) E) E := by
  rw [ev, wp_bind]
  congr 1
  funext x S1
  cases h : (lstD S1 x).isSome
  · simp [WR]
  · simp [wp_bind, w_opt]
@[simp ↓] theorem w_prm {f : List D → Sto → R D} {es : Xp} : WR (ev C G (.prm f es) ρ S) Q E = WR (evs C G es ρ S) (fun xs S1 => WR (f xs S1) Q E) E := by
  show WR (R.bind _ _) Q E = _
  rw [wp_bind]
@[simp ↓] theorem w_itp {f : List D → Sto → R Src} {es : Xp} : WR (evi C G (.itp f es) ρ S) Q' E = WR (evs C G es ρ S) (fun xs S1 => WR (f xs S1) Q' E) E := by
  show WR (R.bind _ _) Q' E = _
  rw [wp_bind]
@[simp ↓] theorem w_fld {f : Str} : WR (ev C G (.fld f a) ρ S) Q E = WR (ev C G a ρ S) (fun x S1 => optP (insF S1 x f) fun r => Q r S1) E := by
  show WR (R.bind _ fun x S1 => _) Q E = _
  rw [wp_bind]
  congr 1
  funext x S1
  rw [w_opt]
@[simp ↓] theorem w_meth {m : Str} {c i : Nat} {es : Xp} : WR (ev C G (.meth m c i a es) ρ S) Q E = WR (ev C G a ρ S) (fun x S1 => insM S1 x c m = true ∧ WR (evs C G es ρ S1) (fun xs S2 => WR (C i (x :: xs) S2) Q E) E) E := by
  show WR (R.bind _ fun x S1 => if insM S1 x c m = true then R.bind _ _ else R.bad) Q E = _
  rw [wp_bind]
  congr 1
  funext x S1
  rw [if_bad, wp_bind]
def nonP (r : D) (p : Prop) : Prop := match r with
  | .non => p
  | _ => False
@[simp] theorem nonP_non {p : Prop} : nonP .non p = p := rfl
@[simp ↓] theorem w_mko {c i : Nat} {es : Xp} : WR (ev C G (.mko c i es) ρ S) Q E = WR (evs C G es ρ S) (fun xs S1 => WR (C i (.loc S1.length :: xs) (S1 ++ [.ins c []])) (fun r S2 => nonP r (Q (.loc S1.length) S2)) E) E := by
  show WR (R.bind _ fun xs S1 => R.bind _ fun r S2 => _) Q E = _
  rw [wp_bind]
  congr 1
  funext xs S1
  rw [wp_bind]
  congr 1
  funext r S2
  cases r <;> rfl
@[simp ↓] theorem w_lcd {it tg kx vx cd : Xp} {vs : List Nat} : WR (ev C G (.lcd it tg kx vx cd vs) ρ S) Q E = WR (evi C G it ρ S) (fun src S1 =>
    WR (lcld src tg (fun ρ1 S2 => asT (ev C G cd ρ1 S2)) (fun ρ1 S2 => ev C G kx ρ1 S2) (fun ρ1 S2 => ev C G vx ρ1 S2) (wipeE ρ vs) (src.size S1 + 1) 0 [] S1) (fun kvs S2 => Q (.loc S2.length) (S2 ++ [.dic kvs])) E) E := by
  show WR (R.bind _ fun src S1 => R.bind _ fun kvs S2 => _) Q E = _
  rw [wp_bind]
  congr 1
  funext src S1
  rw [wp_bind]
  rfl
@[simp ↓] theorem s_asgs {ts es : Xp} : Ws (run n C G (.asgs ts es) ρ S) p = WR (evs C G es ρ S) (fun ds S1 => Ws (setTs C G ts ds ρ S1) p) (fun c q S1 => p.ex c q ρ S1) := by
  show Ws (ofR _ _ _) p = _
  rw [ofR_ws]
@[simp ↓] theorem s_setTs_nil : Ws (setTs C G .nil [] ρ S) p = p.nx ρ S := rfl
@[simp ↓] theorem s_setTs_ix {d : D} {ds : List D} : Ws (setTs C G (.cons (.ix a b) c) (d :: ds) ρ S) p = WR (ev C G a ρ S) (fun x S2 => WR (ev C G b ρ S2) (fun y S3 => optP (setIx x y d S3) fun S4 => Ws (setTs C G c ds ρ S4) p) (fun e q S1 => p.ex e q ρ S1)) (fun e q S1 => p.ex e q ρ S1) := by
  have h : setTs C G (.cons (.ix a b) c) (d :: ds) ρ S = CC.ofR (ev C G a ρ S) ρ fun x S1 => CC.ofR (ev C G b ρ S1) ρ fun y S2 => match setIx x y d S2 with
      | some S3 => setTs C G c ds ρ S3
      | none => .bad := by
    show (match setT C G (.ix a b) d ρ S with
      | .nx ρ1 S1 => setTs C G c ds ρ1 S1
      | r => r) = _
    show (match CC.ofR (ev C G a ρ S) ρ fun x S1 => CC.ofR (ev C G b ρ S1) ρ fun y S2 => match setIx x y d S2 with
      | some S3 => Rs.nx ρ S3
      | none => .bad with
      | .nx ρ1 S1 => setTs C G c ds ρ1 S1
      | r => r) = _
    cases ev C G a ρ S with
    | ok x S1 =>
      simp only [ofR_ok]
      cases ev C G b ρ S1 with
      | ok y S2 =>
        simp only [ofR_ok]
        cases setIx x y d S2 <;> rfl
      | exc _ _ _ => rfl
      | bad => rfl
    | exc _ _ _ => rfl
    | bad => rfl
  rw [h, ofR_ws]
  congr 1
  funext x S1
  rw [ofR_ws]
  congr 1
  funext y S2
  cases setIx x y d S2 <;> rfl
@[simp ↓] theorem s_fset {f : Str} : Ws (run n C G (.fset a f b) ρ S) p = WR (ev C G b ρ S) (fun d S1 => WR (ev C G a ρ S1) (fun x S2 => optP (insS S2 x f d) fun S3 => p.nx ρ S3) (fun e q S1 => p.ex e q ρ S1)) (fun e q S1 => p.ex e q ρ S1) := by
  show Ws (ofR _ _ fun d S1 => ofR _ _ fun x S2 => _) p = _
  rw [ofR_ws]
  congr 1
  funext d S1
  rw [ofR_ws]
  congr 1
  funext x S2
  cases insS S2 x f d <;> rfl
@[simp ↓] theorem w_lset : WR (ev C G (.lset a) ρ S) Q E = WR (ev C G a ρ S) (fun x S1 => optP ((lstD S1 x).bind lsetL) fun n => Q (.int n) S1) E := by
  show WR (R.bind _ fun x S1 => _) Q E = _
  rw [wp_bind]
  congr 1
  funext x S1
  show WR (R.opt _ _) Q E = _
  rw [w_opt, optP_map]
@[simp ↓] theorem w_sumv : WR (ev C G (.sumv a) ρ S) Q E = WR (ev C G a ρ S) (fun x S1 => optP (dicD S1 x) fun kvs => optP (intsOf (kvs.map (·.2))) fun ns => Q (.int ns.sum) S1) E := by
  show WR (R.bind _ fun x S1 => _) Q E = _
  rw [wp_bind]
  congr 1
  funext x S1
  cases dicD S1 x with
  | none => rfl
  | some n => show WR (R.opt _ _) Q E = _; rw [w_opt, optP_map]; rfl
def fdP (x : D) (f : List Key → List D → Prop) : Prop := match x with
  | .fd ks ds => f ks ds
  | _ => False
@[simp] theorem fdP_fd {ks : List Key} {ds : List D} {f : List Key → List D → Prop} : fdP (.fd ks ds) f = f ks ds := rfl
@[simp ↓] theorem w_dit : WR (evi C G (.dit a) ρ S) Q' E = WR (ev C G a ρ S) (fun x S1 => fdP x fun ks ds => Q' (.ds ((ks.zip ds).map fun kv => .tup [kDi kv.1, kv.2])) S1) E := by
  show WR (R.bind _ fun x S1 => _) Q' E = _
  rw [wp_bind]
  congr 1
  funext x S1
  cases x <;> rfl
@[simp ↓] theorem w_dks : WR (evi C G (.dks a) ρ S) Q' E = WR (ev C G a ρ S) (fun x S1 => fdP x fun ks ds => Q' (.ds ((ks.zip ds).map fun kv => kDi kv.1)) S1) E := by
  show WR (R.bind _ fun x S1 => _) Q' E = _
  rw [wp_bind]
  congr 1
  funext x S1
  cases x <;> rfl
@[simp ↓] theorem w_dvs : WR (evi C G (.dvs a) ρ S) Q' E = WR (ev C G a ρ S) (fun x S1 => fdP x fun ks ds => Q' (.ds ((ks.zip ds).map fun kv => kv.2)) S1) E := by
  show WR (R.bind _ fun x S1 => _) Q' E = _
  rw [wp_bind]
  congr 1
  funext x S1
  cases x <;> rfl
def fmP (x : D) (f : List NestedKey → List D → Prop) : Prop := match x with
  | .fm ks ds => f ks ds
  | _ => False
@[simp] theorem fmP_fm {ks : List NestedKey} {ds : List D} {f : List NestedKey → List D → Prop} : fmP (.fm ks ds) f = f ks ds := rfl
@[simp ↓] theorem w_dksn : WR (evi C G (.dksn a) ρ S) Q' E = WR (ev C G a ρ S) (fun x S1 => fmP x fun ks ds => Q' (.ds ((ks.zip ds).map fun kv => nD kv.1)) S1) E := by
  show WR (R.bind _ fun x S1 => _) Q' E = _
  rw [wp_bind]
  congr 1
  funext x S1
  cases x <;> rfl
end
end CC
namespace CC
open PySem PySem.Spec PyProof.Rows L2
theorem lt_mono {j k : Nat} (h : j ≤ k) : ∀ {d : D}, d.lt j = true → d.lt k = true
  | .non, _ => by simp
  | .bl _, _ => by simp
  | .int _, _ => by simp
  | .str _, _ => by simp
  | .ty _, _ => by simp
  | .fn _, _ => by simp
  | .loc n, q => by simp only [lt_loc, decide_eq_true_eq] at q ⊢; omega
  | .tup ds, q => by
    simp only [lt_tup, ltL, List.all_eq_true] at q ⊢
    exact fun d hd => lt_mono h (q d hd)
  | .fl ds, q => by
    simp only [lt_fl, ltL, List.all_eq_true] at q ⊢
    exact fun d hd => lt_mono h (q d hd)
  | .fd ks ds, q => by
    simp only [lt_fd, ltL, List.all_eq_true] at q ⊢
    exact fun d hd => lt_mono h (q d hd)
  | .exn c ds, q => by
    simp only [lt_exn, ltL, List.all_eq_true] at q ⊢
    exact fun d hd => lt_mono h (q d hd)
  | .fm ks ds, q => by
    simp only [lt_fm, ltL, List.all_eq_true] at q ⊢
    exact fun d hd => lt_mono h (q d hd)
  | .bd ds, q => by
    simp only [lt_bd, ltL, List.all_eq_true] at q ⊢
    exact fun d hd => lt_mono h (q d hd)
  | .cls _, _ => by simp
theorem lt_of {k : Nat} {d : D} (h : d.lt 0 = true) : d.lt k = true := lt_mono (Nat.zero_le _) h
@[simp] theorem lt_lenS {S : Sto} {d : D} (h : d.lt 0 = true) : d.lt S.length = true := lt_of h
@[simp] theorem lt_succ {k : Nat} {d : D} (h : d.lt 0 = true) : d.lt (k + 1) = true := lt_of h
@[simp] theorem ltL_nil {k : Nat} : ltL k [] = true := by unfold ltL; exact List.all_nil
@[simp] theorem ltL_cons {k : Nat} {d : D} {ds : List D} : ltL k (d :: ds) = (d.lt k && ltL k ds) := by unfold ltL; exact List.all_cons
@[simp] theorem ltL_append {k : Nat} {a b : List D} : ltL k (a ++ b) = (ltL k a && ltL k b) := List.all_append
theorem ltL_map {α : Type} {k : Nat} {f : α → D} {l : List α} (h : ∀ x ∈ l, (f x).lt k = true) : ltL k (l.map f) = true := by
  simp only [ltL, List.all_map, List.all_eq_true]
  exact h
@[simp] theorem ltL_map' {α : Type} {k : Nat} {f : α → D} {l : List α} (h : ∀ x, (f x).lt k = true) : ltL k (l.map f) = true := ltL_map fun x _ => h x
@[simp] theorem ltL_replicate {k n : Nat} {d : D} (h : d.lt k = true) : ltL k (List.replicate n d) = true := by
  simp only [ltL, List.all_eq_true]
  intro x hx
  rw [(List.mem_replicate.mp hx).2]
  exact h
theorem ltL_sub {k : Nat} {a b : List D} (h : ∀ d ∈ a, d ∈ b) (q : ltL k b = true) : ltL k a = true := by
  simp only [ltL, List.all_eq_true] at q ⊢
  exact fun d hd => q d (h d hd)
@[simp] theorem ltL_tail {k : Nat} {l : List D} (h : ltL k l = true) : ltL k l.tail = true := ltL_sub (fun _ hd => List.mem_of_mem_tail hd) h
@[simp] theorem ltL_take {k n : Nat} {l : List D} (h : ltL k l = true) : ltL k (l.take n) = true := ltL_sub (fun _ hd => List.mem_of_mem_take hd) h
@[simp] theorem ltL_drop {k n : Nat} {l : List D} (h : ltL k l = true) : ltL k (l.drop n) = true := ltL_sub (fun _ hd => List.mem_of_mem_drop hd) h
@[simp] theorem ltL_reverse {k : Nat} {l : List D} (h : ltL k l = true) : ltL k l.reverse = true := ltL_sub (fun _ hd => List.mem_reverse.mp hd) h
@[simp] theorem ltL_cut {k : Nat} {l : List D} {lo hi : Option Int} (h : ltL k l = true) : ltL k (cut l lo hi) = true := by unfold cut; exact ltL_take (ltL_drop h)
section
variable {S S' : Sto} {J : List SO} {b : Bool} {n : Nat} {x y : SO}
theorem keepS_app : keepS S (S ++ J) := fun i so hi e => .inl (by rw [List.getElem?_append_left hi] at e; exact e)
@[simp] theorem cut_app : cutS S true (S ++ J) = S := by
  unfold cutS
  rw [if_pos ⟨rfl, keepS_app⟩, List.take_left']
  rfl
@[simp] theorem cut_same : cutS S b S = S := by
  unfold cutS
  split
  · exact List.take_length
  · rfl
theorem cut_len (h : S'.length = S.length) : cutS S b S' = S' := by
  unfold cutS
  split
  · rw [← h]; exact List.take_length
  · rfl
@[simp] theorem cut_set : cutS S b (S.set n x) = S.set n x := cut_len (by simp)
@[simp] theorem cut_false : cutS S false S' = S' := by
  unfold cutS
  rw [if_neg (by simp)]
@[simp] theorem cut_set_app (h : x.lt S.length = true) : cutS S true (S.set n x ++ J) = S.set n x := by
  unfold cutS
  have k : keepS S (S.set n x ++ J) := fun i so hi e => by
    rw [List.getElem?_append_left (by simpa using hi)] at e
    by_cases c : n = i
    · subst c
      rw [List.getElem?_set_self hi] at e
      cases e
      exact .inr h
    · rw [List.getElem?_set_ne c] at e
      exact .inl e
  rw [if_pos ⟨rfl, k⟩, List.take_left' (by simp)]
@[simp] theorem so_lst {k : Nat} {ds : List D} : (SO.lst ds).lt k = ltL k ds := rfl
@[simp] theorem so_frz {k : Nat} {ds : List D} : (SO.frz ds).lt k = ltL k ds := rfl
@[simp] theorem so_dic {k : Nat} {kvs : List (Key × D)} : (SO.dic kvs).lt k = ltL k (kvs.map (·.2)) := rfl
@[simp] theorem so_fdic {k : Nat} {kvs : List (Key × D)} : (SO.fdic kvs).lt k = ltL k (kvs.map (·.2)) := rfl
@[simp] theorem so_dn {k : Nat} {kvs : List (NestedKey × D)} : (SO.dn kvs).lt k = ltL k (kvs.map (·.2)) := rfl
@[simp] theorem so_fdn {k : Nat} {kvs : List (NestedKey × D)} : (SO.fdn kvs).lt k = ltL k (kvs.map (·.2)) := rfl
@[simp] theorem new_get : (S ++ x :: J)[S.length]? = some x := by simp
@[simp] theorem new_get1 : (S ++ x :: y :: J)[S.length + 1]? = some y := by
  rw [List.getElem?_append_right (by omega)]
  simp
@[simp] theorem new_set {z : SO} : (S ++ x :: J).set S.length z = S ++ z :: J := by
  rw [List.set_append_right _ _ (Nat.le_refl _)]
  simp
@[simp] theorem new_set1 {z : SO} : (S ++ x :: y :: J).set (S.length + 1) z = S ++ x :: z :: J := by
  rw [List.set_append_right _ _ (by omega)]
  simp
theorem old_get {z : SO} (h : S[n]? = some z) : (S ++ J)[n]? = some z := by
  rw [List.getElem?_append_left (List.getElem?_eq_some_iff.mp h).1]
  exact h
theorem old_lt {z : SO} (h : S[n]? = some z) : n < S.length := (List.getElem?_eq_some_iff.mp h).1
theorem old_set {z u : SO} (h : S[n]? = some z) : (S ++ J).set n u = S.set n u ++ J := List.set_append_left _ _ (old_lt h)
theorem set_get {z u : SO} (h : S[n]? = some z) : (S.set n u)[n]? = some u := List.getElem?_set_self (old_lt h)
theorem lst_at {ds : List D} (h : S[n]? = some (.lst ds)) : lstAt S n = some ds := by unfold lstAt; rw [h]
theorem lst_frz {ds : List D} (h : S[n]? = some (.frz ds)) : lstAt S n = some ds := by unfold lstAt; rw [h]
theorem lstM_at {ds : List D} (h : S[n]? = some (.lst ds)) : lstM S (.loc n) = some ds := by show (match S[n]? with | some (.lst ds) => some ds | _ => none) = _; rw [h]
theorem lstW_at {ds : List D} (h : S[n]? = some (.lst ds)) : lstW S (.loc n) = some ds := by show (match S[n]? with | some (.lst ds) => some ds | _ => none) = _; rw [h]
@[simp] theorem lstAt_new {ds : List D} : lstAt (S ++ .lst ds :: J) S.length = some ds := lst_at new_get
@[simp] theorem lstM_new {ds : List D} : lstM (S ++ .lst ds :: J) (.loc S.length) = some ds := lstM_at new_get
@[simp] theorem lstW_new {ds : List D} : lstW (S ++ .lst ds :: J) (.loc S.length) = some ds := lstW_at new_get
@[simp] theorem lstM_new1 {ds : List D} : lstM (S ++ x :: .lst ds :: J) (.loc (S.length + 1)) = some ds := lstM_at new_get1
@[simp] theorem lstW_new1 {ds : List D} : lstW (S ++ x :: .lst ds :: J) (.loc (S.length + 1)) = some ds := lstW_at new_get1
@[simp] theorem lstAt_new1 {ds : List D} : lstAt (S ++ x :: .lst ds :: J) (S.length + 1) = some ds := lst_at new_get1
variable {Q : D → Sto → Prop} {E : Nat → List D → Sto → Prop} {ds : List D}
theorem fr_at {S0 : Sto} (h : S[n]? = some (.lst ds)) : WR (trim S0 (frzD (.loc n) S)) Q E = Q (.fl ds) (cutS S0 (ltL S0.length ds) (S.set n (.frz ds))) := by
  have e : frzD (.loc n) S = .ok (.fl ds) (S.set n (.frz ds)) := by
    unfold frzD
    simp only [h]
  rw [e, wp_trim, w_ok, lt_fl]
theorem fr_dat {S0 : Sto} {kvs : List (Key × D)} (h : S[n]? = some (.dic kvs)) : WR (trim S0 (frzD (.loc n) S)) Q E = Q (.fd (kvs.map (·.1)) (kvs.map (·.2))) (cutS S0 (ltL S0.length (kvs.map (·.2))) (S.set n (.fdic kvs))) := by
  have e : frzD (.loc n) S = .ok (.fd (kvs.map (·.1)) (kvs.map (·.2))) (S.set n (.fdic kvs)) := by
    unfold frzD
    simp only [h]
  rw [e, wp_trim, w_ok, lt_fd]
theorem fr_nat {S0 : Sto} {kvs : List (NestedKey × D)} (h : S[n]? = some (.dn kvs)) : WR (trim S0 (frzD (.loc n) S)) Q E = Q (.fm (kvs.map (·.1)) (kvs.map (·.2))) (cutS S0 (ltL S0.length (kvs.map (·.2))) (S.set n (.fdn kvs))) := by
  have e : frzD (.loc n) S = .ok (.fm (kvs.map (·.1)) (kvs.map (·.2))) (S.set n (.fdn kvs)) := by
    unfold frzD
    simp only [h]
  rw [e, wp_trim, w_ok, lt_fm]
@[simp ↓] theorem fr_new (q : ltL S.length ds = true) : WR (trim S (frzD (.loc S.length) (S ++ [.lst ds]))) Q E = Q (.fl ds) S := by
  rw [fr_at new_get, q, new_set, cut_app]
@[simp ↓] theorem fr_new0 : WR (trim S (frzD (.loc S.length) (S ++ [.lst []]))) Q E = Q (.fl []) S := fr_new rfl
@[simp ↓] theorem fr_dnew {kvs : List (Key × D)} (q : ltL S.length (kvs.map (·.2)) = true) : WR (trim S (frzD (.loc S.length) (S ++ [.dic kvs]))) Q E = Q (.fd (kvs.map (·.1)) (kvs.map (·.2))) S := by
  rw [fr_dat new_get, q, new_set, cut_app]
@[simp ↓] theorem fr_dnew0 : WR (trim S (frzD (.loc S.length) (S ++ [.dic []]))) Q E = Q (.fd [] []) S := fr_dnew (kvs := []) rfl
@[simp ↓] theorem fr_nnew {kvs : List (NestedKey × D)} (q : ltL S.length (kvs.map (·.2)) = true) : WR (trim S (frzD (.loc S.length) (S ++ [.dn kvs]))) Q E = Q (.fm (kvs.map (·.1)) (kvs.map (·.2))) S := by
  rw [fr_nat new_get, q, new_set, cut_app]
@[simp ↓] theorem fr_nnew0 : WR (trim S (frzD (.loc S.length) (S ++ [.dn []]))) Q E = Q (.fm [] []) S := fr_nnew (kvs := []) rfl
theorem cut_gen {S0 S2 : Sto} (hl : S2.length = S0.length) (hk : ∀ (i : Nat) (so : SO), S2[i]? = some so → S0[i]? = some so ∨ so.lt S0.length = true) : cutS S0 true (S2 ++ J) = S2 := by
  unfold cutS
  rw [if_pos ⟨rfl, fun i so hi e => hk i so (by rw [List.getElem?_append_left (by omega)] at e; exact e)⟩, List.take_left' hl]
theorem keep_set (h : y.lt S.length = true) : ∀ (i : Nat) (so : SO), (S.set n y)[i]? = some so → (S.set n x)[i]? = some so ∨ so.lt (S.set n x).length = true := fun i so e => by
  by_cases c : n = i
  · subst c
    by_cases hi : n < S.length
    · rw [List.getElem?_set_self hi] at e
      cases e
      exact .inr (by rw [List.length_set]; exact h)
    · rw [List.getElem?_eq_none (by simpa using hi)] at e
      cases e
  · rw [List.getElem?_set_ne c] at e ⊢
    exact .inl e
@[simp] theorem cut_set2 (h : y.lt S.length = true) : cutS (S.set n x) true (S.set n y ++ J) = S.set n y := cut_gen (by simp) (keep_set h)
@[simp] theorem cut_set3 {b : Bool} : cutS (S.set n x) b (S.set n y) = S.set n y := cut_len (by simp)
@[simp ↓] theorem fr_setG (hy : y.lt S.length = true) (q : ltL S.length ds = true) : WR (trim (S.set n x) (frzD (.loc (S.set n y).length) (S.set n y ++ [.lst ds]))) Q E = Q (.fl ds) (S.set n y) := by
  rw [fr_at new_get, new_set, List.length_set, q, cut_set2 hy]
@[simp ↓] theorem fr_setS (hy : y.lt S.length = true) (q : ltL S.length ds = true) : WR (trim S (frzD (.loc (S.set n y).length) (S.set n y ++ [.lst ds]))) Q E = Q (.fl ds) (S.set n y) := by
  rw [fr_at new_get, new_set, q, cut_set_app hy]
@[simp ↓] theorem fr_setG' (hy : y.lt S.length = true) (q : ltL S.length ds = true) : WR (trim (S.set n x) (frzD (.loc S.length) (S.set n y ++ [.lst ds]))) Q E = Q (.fl ds) (S.set n y) := by
  have := fr_setG (x := x) (n := n) (Q := Q) (E := E) hy q
  rwa [List.length_set] at this
@[simp ↓] theorem fr_setS' (hy : y.lt S.length = true) (q : ltL S.length ds = true) : WR (trim S (frzD (.loc S.length) (S.set n y ++ [.lst ds]))) Q E = Q (.fl ds) (S.set n y) := by
  have := fr_setS (n := n) (Q := Q) (E := E) hy q
  rwa [List.length_set] at this
@[simp ↓] theorem fr_int {S0 : Sto} {i : Int} : WR (trim S0 (frzD (.int i) S)) Q E = Q (.int i) (cutS S0 true S) := by rw [wp_trim]; show Q _ (cutS S0 _ S) = _; rw [lt_int]
@[simp ↓] theorem fr_bl {S0 : Sto} {i : Bool} : WR (trim S0 (frzD (.bl i) S)) Q E = Q (.bl i) (cutS S0 true S) := by rw [wp_trim]; show Q _ (cutS S0 _ S) = _; rw [lt_bl]
@[simp ↓] theorem fr_str {S0 : Sto} {i : Str} : WR (trim S0 (frzD (.str i) S)) Q E = Q (.str i) (cutS S0 true S) := by rw [wp_trim]; show Q _ (cutS S0 _ S) = _; rw [lt_str]
@[simp ↓] theorem fr_non {S0 : Sto} : WR (trim S0 (frzD .non S)) Q E = Q .non (cutS S0 true S) := by rw [wp_trim]; show Q _ (cutS S0 _ S) = _; rw [lt_non]
@[simp ↓] theorem fr_tup {S0 : Sto} : WR (trim S0 (frzD (.tup ds) S)) Q E = Q (.tup ds) (cutS S0 (ltL S0.length ds) S) := by rw [wp_trim]; show Q _ (cutS S0 _ S) = _; rw [lt_tup]
@[simp ↓] theorem fr_fl {S0 : Sto} : WR (trim S0 (frzD (.fl ds) S)) Q E = Q (.fl ds) (cutS S0 (ltL S0.length ds) S) := by rw [wp_trim]; show Q _ (cutS S0 _ S) = _; rw [lt_fl]
end
section
variable {S S1 : Sto} {n i m : Nat} {p : Po} {C : CallSem} {G : Nat → Option D} {A : Sx} {ρ : Env} {ds : List D}
@[simp ↓] theorem s_fz : Ws (run n C G (.fz i A) ρ S) p = Ws (run n C G A ρ S) { p with nx := fun ρ1 S1 => Ws (fzE i S ρ1 S1) p } := by
  show Ws (match run n C G A ρ S with
    | .nx ρ1 S1 => fzE i S ρ1 S1
    | r => r) p = _
  cases run n C G A ρ S <;> rfl
@[simp ↓] theorem s_wip : Ws (run n C G (.wip i A) ρ S) p = Ws (run n C G A (ρ.set i none) S) p := rfl
theorem fz_at (h : ρ[i]?.bind id = some (.loc m)) (e : S1[m]? = some (.lst ds)) : Ws (fzE i S ρ S1) p = p.nx (ρ.set i (some (.fl ds))) (cutS S (envLt S.length (ρ.set i (some (.fl ds)))) (S1.set m (.frz ds))) := by
  unfold fzE
  rw [h]
  have e2 : frzD (.loc m) S1 = .ok (.fl ds) (S1.set m (.frz ds)) := by unfold frzD; simp only [e]
  simp only [e2]
  rfl
theorem fz_old (h : ρ[i]?.bind id = some (.loc m)) (e : S1[m]? = some (.lst ds)) (l : S1.length = S.length) : Ws (fzE i S ρ S1) p = p.nx (ρ.set i (some (.fl ds))) (S1.set m (.frz ds)) := by
  rw [fz_at h e, cut_len (by rw [List.length_set, l])]
@[simp] theorem envLt_nil {k : Nat} : envLt k [] = true := rfl
@[simp] theorem envLt_none {k : Nat} {ρ : Env} : envLt k (none :: ρ) = envLt k ρ := rfl
@[simp] theorem envLt_some {k : Nat} {d : D} {ρ : Env} : envLt k (some d :: ρ) = (d.lt k && envLt k ρ) := rfl
end
section
variable {i : Nat} {t a b : Xp} {d : D} {ds : List D} {ρ : Env} {vs : List Nat}
@[simp] theorem bindT_var : bindT (.var i) d ρ = some (ρ.set i (some d)) := by simp [bindT]
@[simp] theorem bindT_tup : bindT (.tup t) (.tup ds) ρ = bindL t ds ρ := by simp [bindT]
@[simp] theorem bindT_lst : bindT (.lst t) (.fl ds) ρ = bindL t ds ρ := by simp [bindT]
@[simp] theorem bindL_nil : bindL .nil [] ρ = some ρ := by simp [bindL]
@[simp] theorem bindL_cons : bindL (.cons a b) (d :: ds) ρ = (bindT a d ρ).bind fun ρ1 => bindL b ds ρ1 := by simp [bindL]
@[simp] theorem wipeE_nil : wipeE ρ [] = ρ := rfl
@[simp] theorem wipeE_cons : wipeE ρ (i :: vs) = (wipeE ρ vs).set i none := rfl
end
structure Walk (src : Src) (S : Sto) (l : List D) : Prop where
  get : ∀ i : Nat, src.get i S = some l[i]?
  size : l.length ≤ src.size S
theorem walk_ds {l : List D} {S : Sto} : Walk (.ds l) S l := ⟨fun _ => rfl, Nat.le_refl _⟩
theorem walk_lst {n : Nat} {l : List D} {S : Sto} (h : lstAt S n = some l) : Walk (.lst n) S l :=
  ⟨fun i => by show (lstAt S n).map _ = _; rw [h]; rfl, by show _ ≤ ((lstAt S n).getD []).length; rw [h]; exact Nat.le_refl _⟩
theorem lcS_fm {α : Type} {src : Src} {m : List α} {enc : α → D} {tg : Xp} {cond : Env → Sto → R Bool} {elt : Env → Sto → R D} {ρ : Env} {S : Sto} {Q : List D → Sto → Prop} {E : Nat → List D → Sto → Prop} (w : Walk src S (m.map enc)) (c : α → Bool) (f : α → D) (hl : m.length ≤ sizeLine)
    (go : ∀ x ∈ m, optP (bindT tg (enc x) ρ) fun ρ1 => WR (cond ρ1 S) (fun b S2 => b = c x ∧ S2 = S) Eo ∧ (c x = true → WR (elt ρ1 S) (fun y S3 => y = f x ∧ S3 = S) Eo))
    (fin : Q ((m.filter c).map f) S) : WR (lcl src tg cond elt ρ (Src.size src S + 1) 0 [] S) Q E := by
  have hw := w.size
  rw [List.length_map] at hw
  refine wp_lcl m.length (fun i acc S1 => acc = ((m.take i).filter c).map f ∧ S1 = S) ?_ ?_ _ 0 [] S (Nat.zero_le _) (by omega) ⟨by simp, rfl⟩
  · rintro i acc S1 hi ⟨rfl, rfl⟩
    have g := go m[i] (List.getElem_mem hi)
    cases hb : bindT tg (enc m[i]) ρ with
    | none => rw [hb] at g; exact g.elim
    | some ρ1 =>
    rw [hb] at g
    obtain ⟨g1, h4⟩ := g
    refine ⟨enc m[i], ρ1, by rw [w.get i, List.getElem?_map, List.getElem?_eq_getElem hi]; rfl, hb, WR.mono g1 (fun b S2 h => ?_) (fun _ _ _ z => z)⟩
    obtain ⟨rfl, rfl⟩ := h
    have e : m.take (i + 1) = m.take i ++ [m[i]] := by rw [List.take_succ, List.getElem?_eq_getElem hi]; rfl
    have lt : (((m.take i).filter c).map f).length < sizeLine := by
      have a1 := List.length_filter_le c (m.take i)
      simp only [List.length_map, List.length_take] at a1 ⊢
      omega
    by_cases hc : c m[i] = true
    · rw [if_pos hc]
      refine WR.mono (h4 hc) (fun y S3 z => ?_) (fun _ _ _ z => z)
      obtain ⟨rfl, rfl⟩ := z
      refine ⟨lt, ?_, rfl⟩
      rw [e, List.filter_append, List.map_append, List.filter_cons_of_pos hc]
      rfl
    · rw [if_neg hc]
      refine ⟨?_, rfl⟩
      rw [e, List.filter_append, List.map_append, List.filter_cons_of_neg hc]
      simp only [List.filter_nil, List.map_nil, List.append_nil]
  · rintro acc S1 ⟨rfl, rfl⟩
    refine ⟨by rw [w.get]; simp, ?_⟩
    rw [List.take_length]
    exact fin
theorem lc_fm {α : Type} {m : List α} {enc : α → D} {tg : Xp} {cond : Env → Sto → R Bool} {elt : Env → Sto → R D} {ρ : Env} {S : Sto} {Q : List D → Sto → Prop} {E : Nat → List D → Sto → Prop} (c : α → Bool) (f : α → D) (hl : m.length ≤ sizeLine)
    (go : ∀ x ∈ m, optP (bindT tg (enc x) ρ) fun ρ1 => WR (cond ρ1 S) (fun b S2 => b = c x ∧ S2 = S) Eo ∧ (c x = true → WR (elt ρ1 S) (fun y S3 => y = f x ∧ S3 = S) Eo))
    (fin : Q ((m.filter c).map f) S) : WR (lcl (.ds (m.map enc)) tg cond elt ρ (Src.size (.ds (m.map enc)) S + 1) 0 [] S) Q E := lcS_fm walk_ds c f hl go fin
theorem filt_true {α : Type} {l : List α} : l.filter (fun _ => true) = l := by simp
theorem lcS_m {α : Type} {src : Src} {m : List α} {enc : α → D} {tg : Xp} {C : CallSem} {G : Nat → Option D} {elt : Env → Sto → R D} {ρ : Env} {S : Sto} {Q : List D → Sto → Prop} {E : Nat → List D → Sto → Prop} (w : Walk src S (m.map enc)) (f : α → D) (hl : m.length ≤ sizeLine)
    (go : ∀ x ∈ m, optP (bindT tg (enc x) ρ) fun ρ1 => WR (elt ρ1 S) (fun y S3 => y = f x ∧ S3 = S) Eo)
    (fin : Q (m.map f) S) : WR (lcl src tg (fun ρ1 S2 => asT (ev C G (.bl true) ρ1 S2)) elt ρ (Src.size src S + 1) 0 [] S) Q E := by
  refine lcS_fm w (fun _ => true) f hl (fun x hx => ?_) (by rw [filt_true]; exact fin)
  have g := go x hx
  cases hb : bindT tg (enc x) ρ with
  | none => rw [hb] at g; exact g.elim
  | some ρ1 =>
    rw [hb] at g
    exact ⟨⟨rfl, rfl⟩, fun _ => g⟩
theorem lc_m {α : Type} {m : List α} {enc : α → D} {tg : Xp} {C : CallSem} {G : Nat → Option D} {elt : Env → Sto → R D} {ρ : Env} {S : Sto} {Q : List D → Sto → Prop} {E : Nat → List D → Sto → Prop} (f : α → D) (hl : m.length ≤ sizeLine)
    (go : ∀ x ∈ m, optP (bindT tg (enc x) ρ) fun ρ1 => WR (elt ρ1 S) (fun y S3 => y = f x ∧ S3 = S) Eo)
    (fin : Q (m.map f) S) : WR (lcl (.ds (m.map enc)) tg (fun ρ1 S2 => asT (ev C G (.bl true) ρ1 S2)) elt ρ (Src.size (.ds (m.map enc)) S + 1) 0 [] S) Q E := lcS_m walk_ds f hl go fin
theorem lcS_d {src : Src} {l : List D} {tg : Xp} {C : CallSem} {G : Nat → Option D} {elt : Env → Sto → R D} {ρ : Env} {S : Sto} {Q : List D → Sto → Prop} {E : Nat → List D → Sto → Prop} (w : Walk src S l) (f : D → D) (hl : l.length ≤ sizeLine)
    (go : ∀ x ∈ l, optP (bindT tg x ρ) fun ρ1 => WR (elt ρ1 S) (fun y S3 => y = f x ∧ S3 = S) Eo)
    (fin : Q (l.map f) S) : WR (lcl src tg (fun ρ1 S2 => asT (ev C G (.bl true) ρ1 S2)) elt ρ (Src.size src S + 1) 0 [] S) Q E :=
  lcS_m (m := l) (enc := id) (by rw [List.map_id]; exact w) f hl go fin
theorem lc_d {l : List D} {tg : Xp} {C : CallSem} {G : Nat → Option D} {elt : Env → Sto → R D} {ρ : Env} {S : Sto} {Q : List D → Sto → Prop} {E : Nat → List D → Sto → Prop} (f : D → D) (hl : l.length ≤ sizeLine)
    (go : ∀ x ∈ l, optP (bindT tg x ρ) fun ρ1 => WR (elt ρ1 S) (fun y S3 => y = f x ∧ S3 = S) Eo)
    (fin : Q (l.map f) S) : WR (lcl (.ds l) tg (fun ρ1 S2 => asT (ev C G (.bl true) ρ1 S2)) elt ρ (Src.size (.ds l) S + 1) 0 [] S) Q E := lcS_d walk_ds f hl go fin
theorem ws_for_map {α : Type} {m : List α} {f : α → D} {tg : Xp} {b : Env → Sto → Rs} {p : Po} {ρ : Env} {S : Sto} (I : List α → Env → Sto → Prop)
    (go : ∀ d r ρ S, I (d :: r) ρ S → optP (bindT tg (f d) ρ) fun ρ1 => Ws (b ρ1 S) { nx := I r, ct := I r, bk := p.nx, rt := p.rt, ex := p.ex })
    (fin : ∀ ρ S, I [] ρ S → p.nx ρ S) (h : I m ρ S) : Ws (forl (.ds (m.map f)) tg b (Src.size (.ds (m.map f)) S + 1) 0 ρ S) p := by
  refine ws_forl m.length (fun i ρ S => I (m.drop i) ρ S) (fun i ρ S hi z => ?_) (fun ρ S z => ?_) _ 0 ρ S (Nat.zero_le _) (by show _ < 0 + ((m.map f).length + 1); simp) h
  · have e : m.drop i = m[i] :: m.drop (i + 1) := List.drop_eq_getElem_cons hi
    have z' : I (m.drop i) ρ S := z
    rw [e] at z'
    have g := go _ _ ρ S z'
    cases hb : bindT tg (f m[i]) ρ with
    | none => rw [hb] at g; exact g.elim
    | some ρ1 =>
      rw [hb] at g
      exact ⟨f m[i], ρ1, by show some ((m.map f)[i]?) = _; rw [List.getElem?_map, List.getElem?_eq_getElem hi]; rfl, hb, g⟩
  · have z' : I (m.drop m.length) ρ S := z
    rw [List.drop_length] at z'
    exact ⟨by show some ((m.map f)[m.length]?) = _; simp, fin ρ S z'⟩
def forD (tg : Xp) (b : Env → Sto → Rs) : List D → Env → Sto → Rs
  | [], ρ, S => .nx ρ S
  | d :: l, ρ, S => match bindT tg d ρ with
    | none => .bad
    | some ρ1 => match b ρ1 S with
      | .nx ρ2 S2 => forD tg b l ρ2 S2
      | .ct ρ2 S2 => forD tg b l ρ2 S2
      | .bk ρ2 S2 => .nx ρ2 S2
      | r => r
theorem forl_D {tg : Xp} {b : Env → Sto → Rs} {l : List D} : ∀ {i f : Nat} {ρ : Env} {S : Sto}, i ≤ l.length → l.length < i + f → forl (.ds l) tg b f i ρ S = forD tg b (l.drop i) ρ S
  | i, 0, ρ, S, h1, h2 => by omega
  | i, f + 1, ρ, S, h1, h2 => by
    show (match (Src.ds l).get i S with
      | none => Rs.bad
      | some none => Rs.nx ρ S
      | some (some d) => match bindT tg d ρ with
        | none => Rs.bad
        | some ρ1 => match b ρ1 S with
          | .nx ρ2 S2 => forl (.ds l) tg b f (i + 1) ρ2 S2
          | .ct ρ2 S2 => forl (.ds l) tg b f (i + 1) ρ2 S2
          | .bk ρ2 S2 => .nx ρ2 S2
          | r => r) = _
    by_cases c : i < l.length
    · have e : (Src.ds l).get i S = some (some l[i]) := by show some l[i]? = _; rw [List.getElem?_eq_getElem c]
      rw [e, List.drop_eq_getElem_cons c]
      show _ = (match bindT tg l[i] ρ with
        | none => Rs.bad
        | some ρ1 => match b ρ1 S with
          | .nx ρ2 S2 => forD tg b (l.drop (i + 1)) ρ2 S2
          | .ct ρ2 S2 => forD tg b (l.drop (i + 1)) ρ2 S2
          | .bk ρ2 S2 => .nx ρ2 S2
          | r => r)
      simp only
      cases bindT tg l[i] ρ with
      | none => rfl
      | some ρ1 =>
        simp only
        cases b ρ1 S with
        | nx ρ2 S2 => exact forl_D (by omega) (by omega)
        | ct ρ2 S2 => exact forl_D (by omega) (by omega)
        | _ => rfl
    · have e : (Src.ds l).get i S = some none := by show some l[i]? = _; rw [List.getElem?_eq_none (by omega)]
      rw [e, List.drop_of_length_le (by omega)]
      rfl
theorem ws_ds {l : List D} {tg : Xp} {b : Env → Sto → Rs} {p : Po} {ρ : Env} {S S' : Sto} : Ws (forl (.ds l) tg b (Src.size (.ds l) S' + 1) 0 ρ S) p = Ws (forD tg b l ρ S) p := by
  rw [forl_D (Nat.zero_le _) (by show l.length < 0 + (l.length + 1); omega), List.drop_zero]
@[simp ↓] theorem ws_D_nil {tg : Xp} {b : Env → Sto → Rs} {p : Po} {ρ : Env} {S : Sto} : Ws (forD tg b [] ρ S) p = p.nx ρ S := rfl
@[simp ↓] theorem ws_D_cons {d : D} {l : List D} {tg : Xp} {b : Env → Sto → Rs} {p : Po} {ρ : Env} {S : Sto} : Ws (forD tg b (d :: l) ρ S) p = optP (bindT tg d ρ) fun ρ1 => Ws (b ρ1 S) { p with nx := fun ρ2 S2 => Ws (forD tg b l ρ2 S2) p, ct := fun ρ2 S2 => Ws (forD tg b l ρ2 S2) p, bk := p.nx } := by
  show Ws (match bindT tg d ρ with
    | none => .bad
    | some ρ1 => match b ρ1 S with
      | .nx ρ2 S2 => forD tg b l ρ2 S2
      | .ct ρ2 S2 => forD tg b l ρ2 S2
      | .bk ρ2 S2 => .nx ρ2 S2
      | r => r) p = _
  cases bindT tg d ρ with
  | none => rfl
  | some ρ1 => simp only [optP_some]; cases b ρ1 S <;> rfl
theorem rd_get {lo : Int} {n i : Nat} (h : i < n) : (rangeD lo n)[i]? = some (.int (lo + (i : Nat))) := by
  rw [rangeD_get, if_pos h]
theorem rangeD_len {lo : Int} {n : Nat} : (rangeD lo n).length = n := by unfold rangeD; simp
theorem ws_range {lo : Int} {m : Nat} {tg : Nat} {b : Env → Sto → Rs} {p : Po} {ρ : Env} {S : Sto} (I : Nat → Env → Sto → Prop)
    (go : ∀ i ρ S, i < m → I i ρ S → Ws (b (ρ.set tg (some (.int (lo + (i : Nat))))) S) { nx := I (i + 1), ct := I (i + 1), bk := p.nx, rt := p.rt, ex := p.ex })
    (fin : ∀ ρ S, I m ρ S → p.nx ρ S) (h : I 0 ρ S) : Ws (forl (.ds (rangeD lo m)) (.var tg) b (Src.size (.ds (rangeD lo m)) S + 1) 0 ρ S) p := by
  refine ws_forl m I (fun i ρ S hi z => ⟨_, _, by show some ((rangeD lo m)[i]?) = _; rw [rd_get hi], rfl, go i ρ S hi z⟩) (fun ρ S z => ⟨by show some ((rangeD lo m)[m]?) = _; rw [List.getElem?_eq_none (by rw [rangeD_len]; omega)], fin ρ S z⟩) _ 0 ρ S (Nat.zero_le _) (by show m < 0 + ((rangeD lo m).length + 1); rw [rangeD_len]; omega) h
theorem ws_lst {q tg : Nat} {l : List D} {b : Env → Sto → Rs} {p : Po} {ρ : Env} {S : Sto} (I : Nat → Env → Sto → Prop) (hg : ∀ i ρ S, I i ρ S → lstAt S q = some l)
    (go : ∀ i ρ S (hi : i < l.length), I i ρ S → Ws (b (ρ.set tg (some l[i])) S) { nx := I (i + 1), ct := I (i + 1), bk := p.nx, rt := p.rt, ex := p.ex })
    (fin : ∀ ρ S, I l.length ρ S → p.nx ρ S) (h : I 0 ρ S) : Ws (forl (.lst q) (.var tg) b (Src.size (.lst q) S + 1) 0 ρ S) p := by
  have sz : Src.size (.lst q) S = l.length := by show ((lstAt S q).getD []).length = _; rw [hg 0 ρ S h]; rfl
  refine ws_forl l.length I (fun i ρ S hi z => ⟨l[i], _, ?_, rfl, go i ρ S hi z⟩) (fun ρ S z => ⟨?_, fin ρ S z⟩) _ 0 ρ S (Nat.zero_le _) (by rw [sz]; omega) h
  · show (lstAt S q).map _ = _
    rw [hg i ρ S z]
    show some (l[i]?) = _
    rw [List.getElem?_eq_getElem hi]
  · show (lstAt S q).map _ = _
    rw [hg _ ρ S z]
    show some (l[l.length]?) = _
    simp
theorem s_seq {n : Nat} {C : CallSem} {G : Nat → Option D} {ρ : Env} {S : Sto} {p : Po} {A B : Sx} (I : Env → Sto → Prop) (h1 : Ws (run n C G A ρ S) { p with nx := I }) (h2 : ∀ ρ S, I ρ S → Ws (run n C G B ρ S) p) : Ws (run n C G (.cons A B) ρ S) p := by
  rw [s_cons]
  exact Ws.mono h1 h2 (fun _ _ z => z) (fun _ _ z => z) (fun _ _ z => z) (fun _ _ _ _ z => z)
theorem mt_any {mm : Mt} {n : Nat} {ds xs ys : List D} {r : D} {S : Sto} {Q : D → Sto → Prop} {E : Nat → List D → Sto → Prop} (h : S[n]? = some (.lst ds)) (hm : mtL mm ds xs S = some (r, ys)) : WR (mtD mm (.loc n) xs S) Q E = Q r (S.set n (.lst ys)) := by
  show WR (match S[n]? with
    | some (.lst ds) => mtW n S (mtL mm ds xs S)
    | _ => .bad) Q E = _
  rw [h]
  show WR (mtW n S (mtL mm ds xs S)) Q E = _
  rw [hm]
  rfl
theorem mt_append {n : Nat} {d : D} {ds : List D} {S : Sto} {Q : D → Sto → Prop} {E : Nat → List D → Sto → Prop} (h : S[n]? = some (.lst ds)) : WR (mtD .append (.loc n) [d] S) Q E = (ds.length < sizeLine ∧ Q .non (S.set n (.lst (ds ++ [d])))) := by
  show WR (match S[n]? with
    | some (.lst ds) => mtW n S (mtL .append ds [d] S)
    | _ => .bad) Q E = _
  rw [h]
  show WR (mtW n S (if ds.length < sizeLine then some (.non, ds ++ [d]) else none)) Q E = _
  by_cases c : ds.length < sizeLine
  · rw [if_pos c]
    show Q _ _ = _
    simp [c]
  · rw [if_neg c]
    show False = _
    simp [c]
@[simp ↓] theorem mt_appN {d : D} {ds : List D} {S : Sto} {J : List SO} {Q : D → Sto → Prop} {E : Nat → List D → Sto → Prop} : WR (mtD .append (.loc S.length) [d] (S ++ .lst ds :: J)) Q E = (ds.length < sizeLine ∧ Q .non (S ++ .lst (ds ++ [d]) :: J)) := by
  rw [mt_append new_get, new_set]
theorem isLst_at {n : Nat} {ds : List D} {S : Sto} (h : S[n]? = some (.lst ds)) : isLst (.loc n) S = true := by
  show (lstAt S n).isSome = true
  rw [lst_at h]
  rfl
@[simp] theorem isLst_new {ds : List D} {S : Sto} {J : List SO} : isLst (.loc S.length) (S ++ .lst ds :: J) = true := isLst_at new_get
theorem setIx_at {S : Sto} {n : Nat} {i : Int} {j : Nat} {d : D} {ds : List D} (h : S[n]? = some (.lst ds)) (e : ixN ds.length i = some j) : setIx (.loc n) (.int i) d S = some (S.set n (.lst (ds.set j d))) := by
  show (match S[n]? with
    | some (.lst ds) => (ixN ds.length i).map fun j => S.set n (.lst (ds.set j d))
    | some (.dic kvs) => (kD (.int i)).bind fun k => if kvs.length < sizeLine then some (S.set n (.dic (putA kvs k d))) else none
    | some (.dn kvs) => (kT (.int i)).bind fun k => if kvs.length < sizeLine then some (S.set n (.dn (putA kvs k d))) else none
    | _ => none) = _
  rw [h]
  show (ixN ds.length i).map _ = _
  rw [e]
  rfl
theorem log2_lt {i : Int} {k : Nat} (h0 : 0 ≤ i) (h : i < 2 ^ k) (hk : 0 < k) : i.natAbs.log2 < k := by
  obtain ⟨j, rfl⟩ := Int.eq_ofNat_of_zero_le h0
  have : j < 2 ^ k := by exact_mod_cast h
  rw [Int.natAbs_natCast]
  by_cases z : j = 0
  · subst z; simpa using hk
  · exact (Nat.log2_lt z).mpr this
theorem divOk_of {j : Int} {k : Nat} (h0 : 0 < j) (h : j < 2 ^ k) (hk : k ≤ 9000) : divOk j = true := by
  unfold divOk
  rw [decide_eq_true h0, Bool.true_and]
  have hk0 : 0 < k := by
    rcases Nat.eq_zero_or_pos k with e | e
    · subst e
      have : j < 1 := by simpa using h
      omega
    · exact e
  have := log2_lt (by omega) h hk0
  exact decide_eq_true (by omega)
theorem powOk_of {i j : Int} {k : Nat} (h0 : 0 ≤ i) (h : i < 2 ^ k) (hk : k ≤ 1000) (hk0 : 0 < k) (j0 : 0 ≤ j) (j1 : j ≤ 1000) : powOk i j = true := by
  unfold powOk
  have := log2_lt h0 h hk0
  rw [decide_eq_true j0, decide_eq_true j1]
  exact decide_eq_true (by omega)
theorem mulOk_of {i j : Int} {k l : Nat} (h0 : 0 ≤ i) (h : i < 2 ^ k) (hk : 0 < k) (g0 : 0 ≤ j) (g : j < 2 ^ l) (hl : 0 < l) (hkl : k + l ≤ 1000000) : mulOk i j = true := by
  unfold mulOk
  have a1 := log2_lt h0 h hk
  have a2 := log2_lt g0 g hl
  exact decide_eq_true (by omega)
theorem small62_of {i : Int} (h0 : 0 ≤ i) (h1 : i < 2 ^ 62) : small62 i = true := by
  unfold small62
  rw [decide_eq_true h1, decide_eq_true (by omega)]
  rfl
theorem ixN_of {n j : Nat} (hj : j < n) : ixN n (j : Int) = some j := by
  unfold ixN
  rw [if_pos (by omega)]
  simp [hj]
theorem atI_of {α : Type} {xs : List α} {i : Int} (h0 : 0 ≤ i) (h : i.toNat < xs.length) : atI xs i = some xs[i.toNat] := by
  obtain ⟨j, rfl⟩ := Int.eq_ofNat_of_zero_le h0
  exact atI_nat (List.getElem?_eq_getElem h)
theorem blsOf_map {α : Type} {f : α → Bool} : ∀ l : List α, blsOf (l.map fun d => .bl (f d)) = some (l.map f)
  | [] => rfl
  | d :: l => by
    show (blsOf (l.map _)).map _ = _
    rw [blsOf_map l]
    rfl
theorem cut1 {α : Type} {l : List α} : cut l (some 1) none = l.tail := by
  unfold cut
  have e1 : HT.sIx l.length 0 (some 1) = min 1 l.length := by
    unfold HT.sIx
    simp
  have e2 : HT.sIx l.length l.length none = l.length := rfl
  rw [e1, e2]
  cases l with
  | nil => rfl
  | cons x r => simp
end CC
namespace CC
open PySem PySem.Spec PyProof.Rows L2
section
variable {k : Nat} {v : D} {S : Sto} {Q : D → Sto → Prop} {E : Nat → List D → Sto → Prop}
def isIB : D → Bool
  | .int _ => true
  | .bl _ => true
  | _ => false
def isBB : D → Bool
  | .bl _ => true
  | _ => false
def isSB : D → Bool
  | .str _ => true
  | _ => false
def isTB : D → Bool
  | .tup _ => true
  | _ => false
def isLB (v : D) (S : Sto) : Bool := match v with
  | .fl _ => true
  | .loc n => match S[n]? with
    | some (.lst _) => true
    | _ => false
  | _ => false
theorem isi_of {t b : String} (h : tyOfD v S = some t) (hk : knownTy b = true) : isinst v (.ty b) S = some (subTy t b) := by
  unfold isinst isT
  rw [h]
  simp [hk]
theorem isi_int (hv : (tyOfD v S).isSome = true) : isinst v (.ty "int") S = some (isIB v) := by
  obtain ⟨t, ht⟩ := Option.isSome_iff_exists.mp hv
  rw [isi_of ht (by decide +kernel)]
  cases v with
  | loc n =>
    have e : tyOfD (.loc n) S = match S[n]? with
      | some (.lst _) => some "list"
      | some (.dic _) => some "dict"
      | _ => none := rfl
    rw [e] at ht
    split at ht <;> cases ht <;> (first | (show _ = some true; decide +kernel) | (show _ = some false; decide +kernel))
  | _ => first | (cases ht; done) | (cases ht; first | (show _ = some true; decide +kernel) | (show _ = some false; decide +kernel))
theorem isi_bool (hv : (tyOfD v S).isSome = true) : isinst v (.ty "bool") S = some (isBB v) := by
  obtain ⟨t, ht⟩ := Option.isSome_iff_exists.mp hv
  rw [isi_of ht (by decide +kernel)]
  cases v with
  | loc n =>
    have e : tyOfD (.loc n) S = match S[n]? with
      | some (.lst _) => some "list"
      | some (.dic _) => some "dict"
      | _ => none := rfl
    rw [e] at ht
    split at ht <;> cases ht <;> (first | (show _ = some true; decide +kernel) | (show _ = some false; decide +kernel))
  | _ => first | (cases ht; done) | (cases ht; first | (show _ = some true; decide +kernel) | (show _ = some false; decide +kernel))
theorem isi_str (hv : (tyOfD v S).isSome = true) : isinst v (.ty "str") S = some (isSB v) := by
  obtain ⟨t, ht⟩ := Option.isSome_iff_exists.mp hv
  rw [isi_of ht (by decide +kernel)]
  cases v with
  | loc n =>
    have e : tyOfD (.loc n) S = match S[n]? with
      | some (.lst _) => some "list"
      | some (.dic _) => some "dict"
      | _ => none := rfl
    rw [e] at ht
    split at ht <;> cases ht <;> (first | (show _ = some true; decide +kernel) | (show _ = some false; decide +kernel))
  | _ => first | (cases ht; done) | (cases ht; first | (show _ = some true; decide +kernel) | (show _ = some false; decide +kernel))
theorem isi_tuple (hv : (tyOfD v S).isSome = true) : isinst v (.ty "tuple") S = some (isTB v) := by
  obtain ⟨t, ht⟩ := Option.isSome_iff_exists.mp hv
  rw [isi_of ht (by decide +kernel)]
  cases v with
  | loc n =>
    have e : tyOfD (.loc n) S = match S[n]? with
      | some (.lst _) => some "list"
      | some (.dic _) => some "dict"
      | _ => none := rfl
    rw [e] at ht
    split at ht <;> cases ht <;> (first | (show _ = some true; decide +kernel) | (show _ = some false; decide +kernel))
  | _ => first | (cases ht; done) | (cases ht; first | (show _ = some true; decide +kernel) | (show _ = some false; decide +kernel))
theorem isi_list (hv : (tyOfD v S).isSome = true) : isinst v (.ty "list") S = some (isLB v S) := by
  obtain ⟨t, ht⟩ := Option.isSome_iff_exists.mp hv
  rw [isi_of ht (by decide +kernel)]
  cases v with
  | loc n =>
    have e : tyOfD (.loc n) S = match S[n]? with
      | some (.lst _) => some "list"
      | some (.dic _) => some "dict"
      | _ => none := rfl
    have e2 : isLB (.loc n) S = match S[n]? with
      | some (.lst _) => true
      | _ => false := rfl
    rw [e] at ht
    rw [e2]
    split at ht <;> rename_i q <;> cases ht <;> rw [q] <;> (first | (show _ = some true; decide +kernel) | (show _ = some false; decide +kernel))
  | _ => first | (cases ht; done) | (cases ht; first | (show _ = some true; decide +kernel) | (show _ = some false; decide +kernel))
theorem isi_pair {b c : String} {t : String} (h : tyOfD v S = some t) (hb : knownTy b = true) (hc : knownTy c = true) : isinst v (.tup [.ty b, .ty c]) S = some (subTy t b || subTy t c) := by
  unfold isinst isT
  rw [h]
  simp [hb, hc]
def Nice : Nat → D → Sto → Prop
  | 0, _, _ => True
  | n + 1, v, S => (tyOfD v S).isSome = true ∧ ∀ ds, v = .tup ds → ds.length ≤ sizeLine ∧ ∀ d ∈ ds, Nice n d S
theorem Nice.le {S : Sto} : ∀ {n m : Nat} {v : D}, Nice n v S → m ≤ n → Nice m v S
  | _, 0, _, _, _ => trivial
  | 0, m + 1, _, _, h => absurd h (by omega)
  | n + 1, m + 1, v, ⟨h1, h2⟩, h => ⟨h1, fun ds e => ⟨(h2 ds e).1, fun d hd => ((h2 ds e).2 d hd).le (by omega)⟩⟩
def isIntD (v : D) (low : Int) : Bool := match v with
  | .int i => decide (low ≤ i)
  | _ => false
def isRunD (a b : Str) (v : D) : Bool := match v with
  | .tup [.str d, c] => (d == a || d == b) && isIntD c 1
  | _ => false
theorem isRunD_len {a b : Str} {ds : List D} (h : ds.length ≠ 2) : isRunD a b (.tup ds) = false := by
  unfold isRunD
  split
  · rename_i e
    cases e
    exact absurd rfl h
  · rfl
theorem inSeq2 {d a b : Str} : inSeq (.str d) [.str a, .str b] = some (d == a || d == b) := by
  have h1 : (a == d) = (d == a) := by rw [Bool.eq_iff_iff, beq_iff_eq, beq_iff_eq]; exact eq_comm
  have h2 : (b == d) = (d == b) := by rw [Bool.eq_iff_iff, beq_iff_eq, beq_iff_eq]; exact eq_comm
  rw [← h1, ← h2]
  simp [inSeq, flatD, feq]
def fstS : D → Str
  | .tup (.str a :: _) => a
  | _ => ""
def areRunsD (a b : Str) (v : D) : Bool := match v with
  | .tup l => !l.isEmpty && l.all (isRunD a b) && (l.zip l.tail).all fun p => fstS p.1 != fstS p.2
  | _ => false
theorem isRunD_str {a b : Str} {v : D} (h : isRunD a b v = true) : ∃ d c, v = .tup [.str d, c] ∧ fstS v = d := by
  unfold isRunD at h
  split at h
  · exact ⟨_, _, rfl, rfl⟩
  · cases h
theorem zipRuns {a b : Str} {l : List D} (hr : l.all (isRunD a b) = true) {p : D × D} (hp : p ∈ l.zip l.tail) : isRunD a b p.1 = true ∧ isRunD a b p.2 = true := by
  obtain ⟨h1, h2⟩ := List.of_mem_zip (a := p.1) (b := p.2) hp
  exact ⟨List.all_eq_true.mp hr _ h1, List.all_eq_true.mp hr _ (List.mem_of_mem_tail h2)⟩
abbrev Runs := List (Str × Int)
def encP (p : Str × Int) : D := .tup [.str p.1, .int p.2]
def encR (l : Runs) : D := .tup (l.map encP)
def encC (a b : Runs) : D := .tup [encR a, encR b]
def total (l : Runs) : Int := (l.map (·.2)).sum
def ascR (l : Runs) : Bool := (l.zip l.tail).all fun p => p.1.1 != p.2.1
def okR (a b : Str) (l : Runs) : Bool := !l.isEmpty && l.all (fun p => (p.1 == a || p.1 == b) && decide (1 ≤ p.2)) && ascR l
theorem areRuns_enc {a b : Str} {l : Runs} : areRunsD a b (encR l) = okR a b l := by
  unfold encR areRunsD okR ascR
  simp only [List.isEmpty_map, List.all_map]
  congr 1
  rw [← List.map_tail, List.zip_map, List.all_map]
  rfl
def isCityD (v : D) : Bool := match v with
  | .tup [x, y] => areRunsD "E" "W" x && areRunsD "N" "S" y
  | _ => false
theorem isCityD_len {ds : List D} (h : ds.length ≠ 2) : isCityD (.tup ds) = false := by
  unfold isCityD
  split
  · rename_i e
    cases e
    exact absurd rfl h
  · rfl
theorem two_of {ds : List D} (h : ((ds.length : Nat) : Int) = 2) : ∃ x y, ds = [x, y] := by
  match ds, h with
  | [x, y], _ => exact ⟨x, y, rfl⟩
  | [], h => simp at h
  | [_], h => simp at h
  | _ :: _ :: _ :: r, h => simp only [List.length_cons] at h; omega
structure Town (a b : Runs) : Prop where
  oa : okR "E" "W" a = true
  ob : okR "N" "S" b = true
  la : a.length ≤ sizeLine
  lb : b.length ≤ sizeLine
theorem nice_encP {p : Str × Int} : Nice 2 (encP p) S := ⟨rfl, fun ds e => by
  cases e
  refine ⟨by simp [sizeLine], fun d hd => ?_⟩
  simp at hd
  rcases hd with rfl | rfl
  · exact ⟨rfl, fun _ e => nomatch e⟩
  · exact ⟨rfl, fun _ e => nomatch e⟩⟩
theorem nice_encR {l : Runs} (h : l.length ≤ sizeLine) : Nice 3 (encR l) S := ⟨rfl, fun ds e => by
  cases e
  refine ⟨by simpa using h, fun d hd => ?_⟩
  obtain ⟨p, _, rfl⟩ := List.mem_map.mp hd
  exact nice_encP⟩
theorem Town.nice {a b : Runs} (t : Town a b) : Nice 4 (encC a b) S := ⟨rfl, fun ds e => by
  cases e
  refine ⟨by simp [sizeLine], fun d hd => ?_⟩
  simp at hd
  rcases hd with rfl | rfl
  · exact nice_encR t.la
  · exact nice_encR t.lb⟩
theorem Town.city {a b : Runs} (t : Town a b) : isCityD (encC a b) = true := by
  show (areRunsD "E" "W" (encR a) && areRunsD "N" "S" (encR b)) = true
  rw [areRuns_enc, areRuns_enc, t.oa, t.ob]
  rfl
def encPt (p : Int × Int) : D := .tup [.int p.1, .int p.2]
def cl : Nat → D → Bool
  | _, .non => true
  | _, .int _ => true
  | _, .str x => PyData.strOk x
  | n + 1, .tup ds => ds.all (cl n)
  | n + 1, .fl ds => ds.all (cl n)
  | _, _ => false
def pd : Nat → D → PyData
  | _, .int i => .int i
  | _, .str x => .str x
  | n + 1, .tup ds => .tuple (ds.map (pd n))
  | n + 1, .fl ds => .list (ds.map (pd n))
  | _, _ => .none
theorem mapM_some {α β γ : Type} {g : β → Option γ} {f : α → β} {h : α → γ} : ∀ {l : List α}, (∀ x ∈ l, g (f x) = some (h x)) → (l.map f).mapM g = some (l.map h)
  | [], _ => rfl
  | x :: l, H => by
    rw [List.map_cons, List.mapM_cons, H x List.mem_cons_self, mapM_some fun y hy => H y (List.mem_cons_of_mem _ hy)]
    rfl
theorem mapM_some' {β γ : Type} {g : β → Option γ} {h : β → γ} {l : List β} (H : ∀ x ∈ l, g x = some (h x)) : l.mapM g = some (l.map h) := by
  have := mapM_some (f := id) (l := l) H
  simpa using this
theorem cl_P : ∀ {n m : Nat} {v : D}, cl n v = true → n ≤ m → toP S m v = some (pd n v)
  | n, m, .non, _, _ => by cases n <;> cases m <;> rfl
  | n, m, .int _, _, _ => by cases n <;> cases m <;> rfl
  | n, m, .str _, _, _ => by cases n <;> cases m <;> rfl
  | n, m, .bl _, h, _ => by cases n <;> cases h
  | n, m, .loc _, h, _ => by cases n <;> cases h
  | n, m, .ty _, h, _ => by cases n <;> cases h
  | n, m, .fn _, h, _ => by cases n <;> cases h
  | n, m, .exn _ _, h, _ => by cases n <;> cases h
  | n, m, .cls _, h, _ => by cases n <;> cases h
  | n, m, .fd _ _, h, _ => by cases n <;> cases h
  | n, m, .fm _ _, h, _ => by cases n <;> cases h
  | n, m, .bd _, h, _ => by cases n <;> cases h
  | 0, m, .tup _, h, _ => by cases h
  | 0, m, .fl _, h, _ => by cases h
  | n + 1, 0, .tup _, _, hm => absurd hm (by omega)
  | n + 1, 0, .fl _, _, hm => absurd hm (by omega)
  | n + 1, m + 1, .tup ds, h, hm => by
    have h' : ds.all (cl n) = true := h
    show (ds.mapM (toP S m)).map PyData.tuple = some (.tuple (ds.map (pd n)))
    rw [mapM_some' fun d hd => cl_P (List.all_eq_true.mp h' d hd) (by omega)]
    rfl
  | n + 1, m + 1, .fl ds, h, hm => by
    have h' : ds.all (cl n) = true := h
    show (ds.mapM (toP S m)).map PyData.list = some (.list (ds.map (pd n)))
    rw [mapM_some' fun d hd => cl_P (List.all_eq_true.mp h' d hd) (by omega)]
    rfl
theorem clL_lay (n : Nat) (ih : ∀ v, cl n v = true → (pd n v).canLay0 = true ∧ (pd n v).depth ≤ n) : ∀ {ds : List D}, (∀ d ∈ ds, cl n d = true) → PyData.canLayAll0 (ds.map (pd n)) = true ∧ PyData.depthAll (ds.map (pd n)) ≤ n
  | [], _ => ⟨rfl, Nat.zero_le _⟩
  | d :: ds, h => by
    obtain ⟨h1, h2⟩ := ih d (h d List.mem_cons_self)
    obtain ⟨h3, h4⟩ := clL_lay n ih fun e he => h e (List.mem_cons_of_mem _ he)
    refine ⟨?_, ?_⟩
    · rw [List.map_cons, PyData.canLayAll0, h1, h3]
      rfl
    · rw [List.map_cons, PyData.depthAll]
      omega
theorem cl_lay : ∀ (n : Nat) (v : D), cl n v = true → (pd n v).canLay0 = true ∧ (pd n v).depth ≤ n
  | n, .non, _ => by cases n <;> exact ⟨rfl, Nat.zero_le _⟩
  | n, .int _, _ => by cases n <;> exact ⟨rfl, Nat.zero_le _⟩
  | n, .str x, h => by
    have e : PyData.strOk x = true := by cases n <;> exact h
    cases n <;> exact ⟨e, Nat.zero_le _⟩
  | n, .bl _, h => by cases n <;> cases h
  | n, .loc _, h => by cases n <;> cases h
  | n, .ty _, h => by cases n <;> cases h
  | n, .fn _, h => by cases n <;> cases h
  | n, .exn _ _, h => by cases n <;> cases h
  | n, .cls _, h => by cases n <;> cases h
  | n, .fd _ _, h => by cases n <;> cases h
  | n, .fm _ _, h => by cases n <;> cases h
  | n, .bd _, h => by cases n <;> cases h
  | 0, .tup _, h => by cases h
  | 0, .fl _, h => by cases h
  | n + 1, .tup ds, h => by
    have h' : ds.all (cl n) = true := h
    obtain ⟨h1, h2⟩ := clL_lay n (cl_lay n) (ds := ds) fun d hd => List.all_eq_true.mp h' d hd
    exact ⟨h1, by show PyData.depth (.tuple (ds.map (pd n))) ≤ n + 1; rw [PyData.depth]; omega⟩
  | n + 1, .fl ds, h => by
    have h' : ds.all (cl n) = true := h
    obtain ⟨h1, h2⟩ := clL_lay n (cl_lay n) (ds := ds) fun d hd => List.all_eq_true.mp h' d hd
    exact ⟨h1, by show PyData.depth (.list (ds.map (pd n))) ≤ n + 1; rw [PyData.depth]; omega⟩
theorem cl_shaped {n : Nat} {v : D} (h : cl n v = true) (hn : n ≤ 64) : SeqAt.shaped (pd n v) = true := by
  obtain ⟨h1, h2⟩ := cl_lay n v h
  unfold SeqAt.shaped
  rw [h1]
  exact decide_eq_true (by omega)
theorem clL_eq (n m : Nat) (ih : ∀ x y, cl n x = true → cl m y = true → (PyData.eqv (pd n x) (pd m y) = true ↔ x = y)) : ∀ {a b : List D}, (∀ d ∈ a, cl n d = true) → (∀ d ∈ b, cl m d = true) → (PyData.eqvAll (a.map (pd n)) (b.map (pd m)) = true ↔ a = b)
  | [], [], _, _ => by simp [PyData.eqvAll]
  | [], _ :: _, _, _ => by simp [PyData.eqvAll]
  | _ :: _, [], _, _ => by simp [PyData.eqvAll]
  | x :: a, y :: b, h1, h2 => by
    have i1 := ih x y (h1 x List.mem_cons_self) (h2 y List.mem_cons_self)
    have i2 := clL_eq n m ih (a := a) (b := b) (fun e he => h1 e (List.mem_cons_of_mem _ he)) (fun e he => h2 e (List.mem_cons_of_mem _ he))
    rw [List.map_cons, List.map_cons, PyData.eqvAll, Bool.and_eq_true, i1, i2, List.cons.injEq]
theorem cl_eq : ∀ (n m : Nat) (x y : D), cl n x = true → cl m y = true → (PyData.eqv (pd n x) (pd m y) = true ↔ x = y)
  | 0, m, x, y, h1, h2 => by
    cases x <;> first | (cases h1; done) | skip
    all_goals (cases m <;> cases y <;> first | (cases h2; done) | simp [pd, PyData.eqv])
  | n + 1, 0, x, y, h1, h2 => by
    cases y <;> first | (cases h2; done) | skip
    all_goals (cases x <;> first | (cases h1; done) | simp [pd, PyData.eqv])
  | n + 1, m + 1, x, y, h1, h2 => by
    cases x with
    | tup a =>
      cases y with
      | tup b =>
        have h1' : a.all (cl n) = true := h1
        have h2' : b.all (cl m) = true := h2
        show PyData.eqvAll _ _ = true ↔ _
        rw [clL_eq n m (cl_eq n m) (fun d hd => List.all_eq_true.mp h1' d hd) (fun d hd => List.all_eq_true.mp h2' d hd)]
        simp
      | _ => first | (cases h2; done) | simp [pd, PyData.eqv]
    | fl a =>
      cases y with
      | fl b =>
        have h1' : a.all (cl n) = true := h1
        have h2' : b.all (cl m) = true := h2
        show PyData.eqvAll _ _ = true ↔ _
        rw [clL_eq n m (cl_eq n m) (fun d hd => List.all_eq_true.mp h1' d hd) (fun d hd => List.all_eq_true.mp h2' d hd)]
        simp
      | _ => first | (cases h2; done) | simp [pd, PyData.eqv]
    | _ => first | (cases h1; done) | (cases y <;> first | (cases h2; done) | simp [pd, PyData.eqv])
theorem inDeep_cl {n m : Nat} {x y : D} {l : List D} {b : Bool} (hx : cl n x = true) (hy : ∀ S, toP S 50 y = toP S 50 (.fl l)) (hl : ∀ d ∈ l, cl m d = true) (hn : n ≤ 50) (hm : m < 50) (hb : b = true ↔ x ∈ l) : inDeep x y S = some b := by
  have hy' : cl (m + 1) (.fl l) = true := List.all_eq_true.mpr hl
  unfold inDeep
  rw [cl_P hx hn, hy S, cl_P hy' (by omega)]
  show (if SeqAt.shaped (pd n x) && SeqAt.shaped (pd (m + 1) (.fl l)) then some ((l.map (pd m)).any fun z => PyData.eqv z (pd n x)) else none) = _
  rw [cl_shaped hx (by omega), cl_shaped hy' (by omega)]
  show some _ = some b
  congr 1
  rw [Bool.eq_iff_iff, hb, List.any_map, List.any_eq_true]
  constructor
  · rintro ⟨d, hd, e⟩
    have := (cl_eq m n d x (hl d hd) hx).mp e
    rw [← this]
    exact hd
  · intro h
    exact ⟨x, h, (cl_eq m n x x (hl x h) hx).mpr rfl⟩
theorem in_cl {n m : Nat} {x : D} {l : List D} {b : Bool} (hx : cl n x = true) (hl : ∀ d ∈ l, cl m d = true) (hn : n ≤ 50) (hm : m < 50) (hb : b = true ↔ x ∈ l) : inD x (.fl l) S = some b :=
  inDeep_cl hx (fun _ => rfl) hl hn hm hb
variable {P : Sto → Prop}
def Rw (P : Sto → Prop) (n w : Nat) (v : D) : Prop := ∃ p : PyData, (∀ (S : Sto) (m : Nat), P S → n ≤ m → toQ S m v = some p) ∧ p.showable = true ∧ dic0 p = true ∧ p.depth ≤ n ∧ shB p ≤ w
theorem Rw.le {n m w x : Nat} (h : Rw P n w v) (hn : n ≤ m) (hw : w ≤ x) : Rw P m x v := by
  obtain ⟨p, h1, h2, h3, h4, h5⟩ := h
  exact ⟨p, fun S j hS hj => h1 S j hS (by omega), h2, h3, by omega, by omega⟩
theorem Rw_non {n w : Nat} (hw : 4 ≤ w) : Rw P n w .non := ⟨.none, fun S m _ _ => by cases m <;> rfl, rfl, rfl, Nat.zero_le _, hw⟩
theorem Rw_bl {n w : Nat} {b : Bool} (hw : 5 ≤ w) : Rw P n w (.bl b) := ⟨.bool b, fun S m _ _ => by cases m <;> rfl, rfl, rfl, Nat.zero_le _, hw⟩
theorem Rw_int {n w : Nat} {i : Int} (hi : i.natAbs.log2 < 1900) (hw : i.natAbs.log2 + 3 ≤ w) : Rw P n w (.int i) := ⟨.int i, fun S m _ _ => by cases m <;> rfl, decide_eq_true (by omega), rfl, Nat.zero_le _, hw⟩
theorem Rw_str {n w : Nat} {x : Str} (hw : (reprText x).length ≤ w) : Rw P n w (.str x) := ⟨.str x, fun S m _ _ => by cases m <;> rfl, rfl, rfl, Nat.zero_le _, hw⟩
theorem Rw_dic {n w : Nat} (hn : 1 ≤ n) (hw : 2 ≤ w) : Rw P n w (.fd [] []) := ⟨.dict [], fun S m _ _ => by cases m <;> rfl, rfl, rfl, by simp [PyData.depth, PyData.depthKv]; omega, hw⟩
theorem RwL {n w : Nat} : ∀ {ds : List D}, (∀ d ∈ ds, Rw P n w d) → ∃ ps : List PyData, (∀ (S : Sto) (m : Nat), P S → n ≤ m → ds.mapM (toQ S m) = some ps) ∧ PyData.showableAll ps = true ∧ dic0s ps = true ∧ PyData.depthAll ps ≤ n ∧ shBs ps ≤ ds.length * (w + 2)
  | [], _ => ⟨[], fun _ _ _ _ => by rw [List.mapM_nil]; rfl, rfl, rfl, Nat.zero_le _, by simp [shBs]⟩
  | d :: ds, h => by
    obtain ⟨p, p1, p2, p3, p4, p5⟩ := h d List.mem_cons_self
    obtain ⟨ps, q1, q2, q3, q4, q5⟩ := RwL fun e he => h e (List.mem_cons_of_mem _ he)
    refine ⟨p :: ps, fun S m hS hm => ?_, by simp only [PyData.showableAll, p2, q2, Bool.and_self], by simp only [dic0s, p3, q3, Bool.and_self], by simp only [PyData.depthAll]; omega, ?_⟩
    · rw [List.mapM_cons, p1 S m hS hm, q1 S m hS hm]
      rfl
    · simp only [shBs, List.length_cons, Nat.add_mul]
      omega
theorem Rw_tup {n w x : Nat} {ds : List D} (h : ∀ d ∈ ds, Rw P n w d) (hx : ds.length * (w + 2) + 3 ≤ x) : Rw P (n + 1) x (.tup ds) := by
  obtain ⟨ps, q1, q2, q3, q4, q5⟩ := RwL h
  refine ⟨.tuple ps, fun S m hS hm => ?_, by simpa only [PyData.showable] using q2, by simpa only [dic0] using q3, by simp only [PyData.depth]; omega, by simp only [shB]; omega⟩
  cases m with
  | zero => omega
  | succ m =>
    show (ds.mapM (toQ S m)).map PyData.tuple = _
    rw [q1 S m hS (by omega)]
    rfl
theorem Rw_fl {n w x : Nat} {ds : List D} (h : ∀ d ∈ ds, Rw P n w d) (hx : ds.length * (w + 2) + 3 ≤ x) : Rw P (n + 1) x (.fl ds) := by
  obtain ⟨ps, q1, q2, q3, q4, q5⟩ := RwL h
  refine ⟨.list ps, fun S m hS hm => ?_, by simpa only [PyData.showable] using q2, by simpa only [dic0] using q3, by simp only [PyData.depth]; omega, by simp only [shB]; omega⟩
  cases m with
  | zero => omega
  | succ m =>
    show (ds.mapM (toQ S m)).map PyData.list = _
    rw [q1 S m hS (by omega)]
    rfl
theorem Rw.rep {n w : Nat} (h : Rw P n w v) (hn : n ≤ 50) (hw : w ≤ sizeLine) : ∃ t : Str, ∀ S, P S → repD v S = some (.str t) := by
  obtain ⟨p, h1, h2, h3, h4, h5⟩ := h
  refine ⟨p.shown, fun S hS => ?_⟩
  unfold repD
  rw [h1 S 50 hS hn]
  show (if repOk p = true then _ else _) = _
  rw [if_pos]
  unfold repOk
  simp only [h2, h3, Bool.and_self, Bool.true_and, Bool.and_eq_true, decide_eq_true_eq]
  exact ⟨by omega, by omega⟩
theorem ascR_cons {x y : Str × Int} {l : Runs} : ascR (x :: y :: l) = (x.1 != y.1 && ascR (y :: l)) := by
  simp [ascR]
def AltR (a b : Str) (s : Int) (l : Runs) : Prop := ∀ j p, l[j]? = some p → p.1 = if (s + (j : Nat)) % 2 = 0 then a else b
def BndR (B : Int) (l : Runs) : Prop := ∀ p ∈ l, 1 ≤ p.2 ∧ p.2 ≤ B
theorem BndR.add {B : Int} {l : Runs} {p : Str × Int} (h : BndR B l) (h1 : 1 ≤ p.2) (h2 : p.2 ≤ B) : BndR B (l ++ [p]) := by
  intro q hq
  rcases List.mem_append.mp hq with z | z
  · exact h q z
  · rw [List.mem_singleton.mp z]
    exact ⟨h1, h2⟩
theorem AltR.add {a b : Str} {s : Int} {l : Runs} {p : Str × Int} (h : AltR a b s l) (e : p.1 = if (s + (l.length : Nat)) % 2 = 0 then a else b) : AltR a b s (l ++ [p]) := by
  intro j q hq
  by_cases hj : j < l.length
  · rw [List.getElem?_append_left hj] at hq
    exact h j q hq
  · rw [List.getElem?_append_right (by omega)] at hq
    have : j = l.length := by
      have := (List.getElem?_eq_some_iff.mp hq).1
      simp at this
      omega
    subst this
    simp at hq
    subst hq
    exact e
theorem ascR_alt {a b : Str} (hab : a ≠ b) : ∀ {l : Runs} {s : Int}, AltR a b s l → ascR l = true
  | [], _, _ => rfl
  | [_], _, _ => rfl
  | x :: y :: l, s, h => by
    rw [ascR_cons]
    have h0 := h 0 x rfl
    have h1 := h 1 y rfl
    have h2 : ascR (y :: l) = true := ascR_alt hab (s := s + 1) fun j p e => by
      have := h (j + 1) p e
      rw [this]
      have e2 : s + ((j + 1 : Nat) : Int) = s + 1 + (j : Nat) := by omega
      rw [e2]
    rw [h2, Bool.and_true, bne_iff_ne, h0, h1]
    split <;> split
    · omega
    · exact hab
    · exact hab.symm
    · omega
structure TownB (a b : Runs) : Prop where
  oa : okR "E" "W" a = true
  ob : okR "N" "S" b = true
  la : a.length ≤ 20
  lb : b.length ≤ 20
  ba : BndR (10 ^ 30) a
  bb : BndR (10 ^ 30) b
theorem TownB.town {a b : Runs} (t : TownB a b) : Town a b := ⟨t.oa, t.ob, by have := t.la; unfold sizeLine; omega, by have := t.lb; unfold sizeLine; omega⟩
theorem okR_mem {a b : Str} {l : Runs} (h : okR a b l = true) {p : Str × Int} (hp : p ∈ l) : (p.1 = a ∨ p.1 = b) ∧ 1 ≤ p.2 := by
  unfold okR at h
  simp only [Bool.and_eq_true] at h
  have := List.all_eq_true.mp h.1.2 p hp
  simpa using this
def signL : Runs → Int → Str
  | [], _ => ""
  | (d, c) :: r, n => if n < c then d else signL r (n - c)
theorem toP_lst {x : D} {ds : List D} (h : lstD S x = some ds) {n : Nat} : toP S (n + 1) x = (ds.mapM (toP S n)).map .list := by
  cases x with
  | loc m =>
    have h' : lstAt S m = some ds := h
    show (lstAt S m).bind _ = _
    rw [h']
    rfl
  | fl l => cases h; rfl
  | _ => cases h
theorem eq_nil {x : D} {ds : List D} (h : lstD S x = some ds) : cmpD .Eq x (.fl []) S = some ds.isEmpty := by
  show qEq x (.fl []) S = _
  have hn : lenNe x (.fl []) S = if ds.length = 0 then none else some false := by
    show (lstD S x).bind _ = _
    rw [h]
    rfl
  have e2 : toP S 50 (.fl []) = some (.list []) := rfl
  have e : eqD x (.fl []) S = some ds.isEmpty ∨ (eqD x (.fl []) S = none ∧ ds ≠ []) := by
    unfold eqD
    rw [e2, toP_lst h]
    cases ds with
    | nil => left; rfl
    | cons d l =>
      cases q : (d :: l).mapM (toP S 49) with
      | none => right; exact ⟨rfl, by simp⟩
      | some ps =>
        have hne : ps ≠ [] := by
          intro z
          subst z
          rw [List.mapM_cons] at q
          cases q1 : toP S 49 d with
          | none => rw [q1] at q; cases q
          | some p =>
            rw [q1] at q
            cases q2 : l.mapM (toP S 49) with
            | none => rw [q2] at q; cases q
            | some r => rw [q2] at q; cases q
        show (if SeqAt.shaped (.list ps) && SeqAt.shaped (.list []) then some (PyData.eqv (.list ps) (.list [])) else none) = _ ∨ (if SeqAt.shaped (.list ps) && SeqAt.shaped (.list []) then some (PyData.eqv (.list ps) (.list [])) else none) = _ ∧ _
        by_cases c : (SeqAt.shaped (.list ps) && SeqAt.shaped (.list [])) = true
        · left
          rw [if_pos c]
          cases ps with
          | nil => exact absurd rfl hne
          | cons p ps => rfl
        · right
          rw [if_neg c]
          exact ⟨rfl, by simp⟩
  have u : qEq x (.fl []) S = match eqD x (.fl []) S with
    | some b => some b
    | none => lenNe x (.fl []) S := by
    unfold qEq
    cases x <;> first | rfl | (cases h; done)
  rw [u]
  rcases e with e | ⟨e, ne⟩
  · rw [e]
  · rw [e, hn]
    cases ds with
    | nil => exact absurd rfl ne
    | cons d l => rfl
theorem okR_alt {a b : Str} {t : Int} {B : Int} {l : Runs} (hab : a ≠ b) (ne : 0 < l.length) (ha : AltR a b t l) (hb : BndR B l) : okR a b l = true := by
  unfold okR
  rw [ascR_alt hab ha, Bool.and_true, Bool.and_eq_true]
  refine ⟨by cases l <;> simp_all, ?_⟩
  rw [List.all_eq_true]
  intro p hp
  obtain ⟨j, hj⟩ := List.getElem?_of_mem hp
  have e := ha j p hj
  have h1 := (hb p hp).1
  rw [e]
  split <;> simp [h1]
@[simp] theorem c_eqB {a b : Bool} : cmpD .Eq (.bl a) (.bl b) S = some (a == b) := by cases a <;> cases b <;> rfl
@[simp] theorem c_neB {a b : Bool} : cmpD .NotEq (.bl a) (.bl b) S = some (a != b) := by cases a <;> cases b <;> rfl
theorem ne_nil {x : D} {ds : List D} (h : lstD S x = some ds) : cmpD .NotEq x (.fl []) S = some (!ds.isEmpty) := by
  have := eq_nil h
  show (qEq x (.fl []) S).map _ = _
  have e : qEq x (.fl []) S = some ds.isEmpty := this
  rw [e]
  rfl
def BagOk (b : SO) (c : Int) : Prop := ∃ a m t : Int, b = .lst [.int a, .int m, .int t] ∧ 0 ≤ a ∧ 0 ≤ m ∧ m < 2 ^ 140 ∧ 0 ≤ t ∧ t ≤ c
theorem BagOk.le {b : SO} {c d : Int} (h : BagOk b c) (x : c ≤ d) : BagOk b d := by
  obtain ⟨a, m, t, h1, h2, h3, h4, h5, h6⟩ := h
  exact ⟨a, m, t, h1, h2, h3, h4, h5, by omega⟩
theorem BagOk.ltS {b : SO} {c : Int} {j : Nat} (h : BagOk b c) : b.lt j = true := by
  obtain ⟨a, m, t, rfl, _⟩ := h
  simp
@[simp] theorem ofS_inj {a b : String} : (Str.ofString a = Str.ofString b) = (a = b) := by
  apply propext
  constructor
  · intro h
    have h1 : a.toList.map Char.toNat = b.toList.map Char.toNat := by
      have := congrArg (fun x : Str => x.cps.toList) h
      simpa [Str.ofString_eq_toList] using this
    have inj : ∀ (l r : List Char), l.map Char.toNat = r.map Char.toNat → l = r := by
      intro l
      induction l with
      | nil => intro r h; cases r with
        | nil => rfl
        | cons _ _ => cases h
      | cons c l ih =>
        intro r h
        cases r with
        | nil => cases h
        | cons d r =>
          simp only [List.map_cons, List.cons.injEq] at h
          rw [ih r h.2, Char.toNat_inj.mp h.1]
    exact String.toList_inj.mp (inj _ _ h1)
  · intro h
    rw [h]
@[simp] theorem ofS_beq {a b : String} : (Str.ofString a == Str.ofString b) = (a == b) := by
  rw [Bool.eq_iff_iff]
  simp
theorem cf_run {W : Nat} {G : Nat → Option D} {T : Nat → Option Fd} {f : Nat} {fd : Fd} {ds : List D} (hT : T f = some fd) (hl : ds.length = fd.np) :
    WR (callF W G T (k + 1) f ds S) Q E = Ws (run W (callF W G T k) G fd.body (startE fd.n ds) S) { nx := fun _ S' => Q .non (cutS S true S'), rt := fun d S' => Q d (cutS S (d.lt S.length) S'), bk := fun _ _ => False, ct := fun _ _ => False, ex := fun c q _ S' => E c q (cutS S (ltL S.length q) S') } := by
  show WR (match T f with
    | some fd => if ds.length = fd.np then trim S (endR (run W (callF W G T k) G fd.body (startE fd.n ds) S)) else .bad
    | none => .bad) Q E = _
  rw [hT]
  show WR (if ds.length = fd.np then _ else _) Q E = _
  rw [if_pos hl, wp_trim, w_end]
  simp only [lt_non]
theorem ite2 {p a b : Prop} [Decidable p] (h1 : p → a) (h2 : ¬ p → b) : if p then a else b := by
  by_cases h : p
  · rw [if_pos h]; exact h1 h
  · rw [if_neg h]; exact h2 h
theorem WR_eq {r : R D} {d : D} (h : ∀ {Q : D → Sto → Prop} {E : Nat → List D → Sto → Prop}, Q d S → WR r Q E) {Q : D → Sto → Prop} {E : Nat → List D → Sto → Prop} : WR r Q E = Q d S := by
  have h0 := h (Q := fun x T => x = d ∧ T = S) (E := fun _ _ _ => False) ⟨rfl, rfl⟩
  cases r with
  | ok x T =>
    obtain ⟨rfl, rfl⟩ := h0
    rfl
  | exc _ _ _ => exact h0.elim
  | bad => exact h0.elim
@[simp] theorem lt_encP {p : Str × Int} : (encP p).lt k = true := by simp [encP]
@[simp] theorem lt_encR {l : Runs} : (encR l).lt k = true := by simp [encR]
@[simp] theorem lt_encC {a b : Runs} : (encC a b).lt k = true := by simp [encC]
@[simp] theorem lt_encPt {p : Int × Int} : (encPt p).lt k = true := by simp [encPt]
theorem Rw_nat {n w : Nat} {i : Int} (j : Nat) (h0 : 0 ≤ i) (h : i < 2 ^ j) (hj : 0 < j) (hj2 : j ≤ 1900) (hw : j + 2 ≤ w) : Rw P n w (.int i) := by
  have := log2_lt h0 h hj
  exact Rw_int (by omega) (by omega)
end
end CC
namespace CC
open PySem PySem.Spec PyProof.Rows L2
section
variable {S : Sto}
structure Cn where
  nm : Str
  so : Bool
  we : Bool
def Cn.x (c : Cn) : Str := if c.we = true then "E" else "W"
def Cn.x' (c : Cn) : Str := if c.we = true then "W" else "E"
def Cn.y (c : Cn) : Str := if c.so = true then "N" else "S"
def Cn.y' (c : Cn) : Str := if c.so = true then "S" else "N"
def corners : List Cn := [⟨"SW", true, true⟩, ⟨"SE", true, false⟩, ⟨"NE", false, false⟩, ⟨"NW", false, true⟩]
def pick (first : Bool) (l : Runs) : Str × Int := if first then l.headD ("", 0) else l.getLastD ("", 0)
def kindS (r s : Str) (c : Cn) : Str := if r = c.x ∧ s = c.y then "source" else if r = c.x' ∧ s = c.y' then "sink" else "open"
structure Ent where
  c : Cn
  kd : Str
  w : Int
  h : Int
def ent (a b : Runs) (c : Cn) : Ent := ⟨c, kindS (pick c.so a).1 (pick c.we b).1 c, if kindS (pick c.so a).1 (pick c.we b).1 c = "open" then 0 else (pick c.we b).2, if kindS (pick c.so a).1 (pick c.we b).1 c = "open" then 0 else (pick c.so a).2⟩
def tab (a b : Runs) : List Ent := corners.map (ent a b)
structure Big (a b : Runs) : Prop where
  t : Town a b
  la : a.length ≤ 1000
  lb : b.length ≤ 1000
  ta : total a < 2 ^ 200
  tb : total b < 2 ^ 200
theorem Big.na {a b : Runs} (h : Big a b) : a ≠ [] := by
  intro e
  have := h.t.oa
  rw [e] at this
  cases this
theorem Big.nb {a b : Runs} (h : Big a b) : b ≠ [] := by
  intro e
  have := h.t.ob
  rw [e] at this
  cases this
def sg (d : Str) : Int := if d = "E" ∨ d = "N" then 1 else -1
theorem law_end {r : R D} {d : D} (h : WR r (fun x _ => x = d) (fun _ _ _ => False)) : ∃ S', r = .ok d S' := by
  cases r with
  | ok x S =>
    have : x = d := h
    exact ⟨S, by rw [this]⟩
  | exc _ _ _ => exact h.elim
  | bad => exact h.elim
def lim : Nat → Nat
  | 1 => 4
  | 2 => 45
  | 3 => 6
  | _ => 8
def bd : Nat → Nat
  | 0 => 1100
  | n + 1 => lim (n + 1) * (bd n + 2) + 3
def clo : Nat → D → Prop
  | _, .non => True
  | _, .bl _ => True
  | _, .int i => i.natAbs < 2 ^ 1000
  | _, .str x => (reprText x).length ≤ 1100
  | n + 1, .tup ds => ds.length ≤ lim (n + 1) ∧ ∀ d ∈ ds, clo n d
  | n + 1, .fl ds => ds.length ≤ lim (n + 1) ∧ ∀ d ∈ ds, clo n d
  | _ + 1, .fd ks ds => ks = [] ∧ ds = []
  | _, _ => False
@[simp] theorem clo_non {n : Nat} : clo n .non := by cases n <;> trivial
@[simp] theorem clo_bl {n : Nat} {b : Bool} : clo n (.bl b) := by cases n <;> trivial
@[simp] theorem clo_int {n : Nat} {i : Int} : clo n (.int i) = (i.natAbs < 2 ^ 1000) := by cases n <;> rfl
@[simp] theorem clo_str {n : Nat} {x : Str} : clo n (.str x) = ((reprText x).length ≤ 1100) := by cases n <;> rfl
@[simp] theorem clo_tup {n : Nat} {ds : List D} : clo (n + 1) (.tup ds) = (ds.length ≤ lim (n + 1) ∧ ∀ d ∈ ds, clo n d) := rfl
@[simp] theorem clo_fl {n : Nat} {ds : List D} : clo (n + 1) (.fl ds) = (ds.length ≤ lim (n + 1) ∧ ∀ d ∈ ds, clo n d) := rfl
@[simp] theorem clo_fd {n : Nat} : clo (n + 1) (.fd [] []) := ⟨rfl, rfl⟩
theorem lim_le (n : Nat) : lim n ≤ 45 := by
  match n with
  | 0 => decide
  | 1 => decide
  | 2 => decide
  | 3 => decide
  | n + 4 => show 8 ≤ 45; decide
theorem clo_lt : ∀ {n : Nat} {v : D} {k : Nat}, clo n v → v.lt k = true
  | _, .non, _, _ => by simp
  | _, .bl _, _, _ => by simp
  | _, .int _, _, _ => by simp
  | _, .str _, _, _ => by simp
  | n + 1, .tup ds, k, h => by
    rw [lt_tup]
    exact List.all_eq_true.mpr fun d hd => clo_lt (h.2 d hd)
  | n + 1, .fl ds, k, h => by
    rw [lt_fl]
    exact List.all_eq_true.mpr fun d hd => clo_lt (h.2 d hd)
  | n + 1, .fd ks ds, k, h => by
    rw [lt_fd, h.2]
    rfl
  | 0, .tup _, _, h => h.elim
  | 0, .fl _, _, h => h.elim
  | 0, .fd _ _, _, h => h.elim
  | 0, .loc _, _, h => h.elim
  | _ + 1, .loc _, _, h => h.elim
  | 0, .fm _ _, _, h => h.elim
  | 0, .bd _, _, h => h.elim
  | _ + 1, .fm _ _, _, h => h.elim
  | _ + 1, .bd _, _, h => h.elim
  | _, .ty _, _, _ => by simp
  | _, .fn _, _, _ => by simp
  | 0, .exn _ _, _, h => h.elim
  | _ + 1, .exn _ _, _, h => h.elim
  | _, .cls _, _, _ => by simp
theorem clo_nice : ∀ {m n : Nat} {v : D} {S : Sto}, clo n v → Nice m v S
  | 0, _, _, _, _ => trivial
  | m + 1, n, .non, S, _ => ⟨rfl, fun _ e => nomatch e⟩
  | m + 1, n, .bl _, S, _ => ⟨rfl, fun _ e => nomatch e⟩
  | m + 1, n, .int _, S, _ => ⟨rfl, fun _ e => nomatch e⟩
  | m + 1, n, .str _, S, _ => ⟨rfl, fun _ e => nomatch e⟩
  | m + 1, n, .fl _, S, _ => ⟨rfl, fun _ e => nomatch e⟩
  | m + 1, n, .fd _ _, S, _ => ⟨rfl, fun _ e => nomatch e⟩
  | m + 1, n + 1, .tup ds, S, h => ⟨rfl, fun es e => by
      cases e
      have := lim_le (n + 1)
      have := h.1
      exact ⟨by unfold sizeLine; omega, fun d hd => clo_nice (h.2 d hd)⟩⟩
  | m + 1, 0, .tup _, _, h => h.elim
  | m + 1, 0, .loc _, _, h => h.elim
  | m + 1, n + 1, .loc _, _, h => h.elim
  | m + 1, 0, .fm _ _, _, h => h.elim
  | m + 1, 0, .bd _, _, h => h.elim
  | m + 1, n + 1, .fm _ _, _, h => h.elim
  | m + 1, n + 1, .bd _, _, h => h.elim
  | m + 1, 0, .ty _, _, h => h.elim
  | m + 1, n + 1, .ty _, _, h => h.elim
  | m + 1, 0, .fn _, _, h => h.elim
  | m + 1, n + 1, .fn _, _, h => h.elim
  | m + 1, 0, .exn _ _, _, h => h.elim
  | m + 1, n + 1, .exn _ _, _, h => h.elim
  | m + 1, 0, .cls _, _, h => h.elim
  | m + 1, n + 1, .cls _, _, h => h.elim
theorem bd_ge : ∀ n : Nat, 1100 ≤ bd n
  | 0 => by decide
  | n + 1 => by
    have := bd_ge n
    have hl : 1 ≤ lim (n + 1) := by
      match n with
      | 0 => decide
      | 1 => decide
      | 2 => decide
      | n + 3 => show 1 ≤ 8; decide
    have := Nat.mul_le_mul hl (Nat.le_refl (bd n + 2))
    show 1100 ≤ lim (n + 1) * (bd n + 2) + 3
    omega
theorem clo_rw {P : Sto → Prop} : ∀ {n : Nat} {v : D}, clo n v → Rw P n (bd n) v
  | n, .non, _ => Rw_non (by have := bd_ge n; omega)
  | n, .bl _, _ => Rw_bl (by have := bd_ge n; omega)
  | n, .int i, h => by
    rw [clo_int] at h
    have := bd_ge n
    have hl : i.natAbs.log2 < 1000 := by
      by_cases z : i.natAbs = 0
      · rw [z]; decide
      · exact (Nat.log2_lt z).mpr h
    exact Rw_int (by omega) (by omega)
  | n, .str x, h => by
    rw [clo_str] at h
    have := bd_ge n
    exact Rw_str (by omega)
  | n + 1, .tup ds, h => Rw_tup (n := n) (w := bd n) (fun d hd => clo_rw (h.2 d hd)) (by have := Nat.mul_le_mul h.1 (Nat.le_refl (bd n + 2)); show _ ≤ lim (n + 1) * (bd n + 2) + 3; omega)
  | n + 1, .fl ds, h => Rw_fl (n := n) (w := bd n) (fun d hd => clo_rw (h.2 d hd)) (by have := Nat.mul_le_mul h.1 (Nat.le_refl (bd n + 2)); show _ ≤ lim (n + 1) * (bd n + 2) + 3; omega)
  | n + 1, .fd ks ds, h => by
    obtain ⟨rfl, rfl⟩ := h
    exact Rw_dic (by omega) (by have := bd_ge (n + 1); omega)
  | 0, .tup _, h => h.elim
  | 0, .fl _, h => h.elim
  | 0, .fd _ _, h => h.elim
  | 0, .loc _, h => h.elim
  | _ + 1, .loc _, h => h.elim
  | 0, .fm _ _, h => h.elim
  | 0, .bd _, h => h.elim
  | _ + 1, .fm _ _, h => h.elim
  | _ + 1, .bd _, h => h.elim
  | 0, .ty _, h => h.elim
  | _ + 1, .ty _, h => h.elim
  | 0, .fn _, h => h.elim
  | _ + 1, .fn _, h => h.elim
  | 0, .exn _ _, h => h.elim
  | _ + 1, .exn _ _, h => h.elim
  | 0, .cls _, h => h.elim
  | _ + 1, .cls _, h => h.elim
end
end CC
namespace CC
structure Grid where
  W : Int
  H : Int
  e : Int → Bool
  n : Int → Bool
def sgB (b : Bool) : Int := if b = true then 1 else -1
def ahd (b : Bool) (u v : Int) : Prop := if b = true then u ≤ v else v ≤ u
def lst (b : Bool) (w : Int) : Int := if b = true then w - 1 else 0
@[simp] theorem ahd_t {u v : Int} : ahd true u v ↔ u ≤ v := by simp [ahd]
@[simp] theorem ahd_f {u v : Int} : ahd false u v ↔ v ≤ u := by simp [ahd]
@[simp] theorem sgB_t : sgB true = 1 := rfl
@[simp] theorem sgB_f : sgB false = -1 := rfl
@[simp] theorem lst_t {w : Int} : lst true w = w - 1 := rfl
@[simp] theorem lst_f {w : Int} : lst false w = 0 := rfl
namespace Grid
def In (g : Grid) (p : Int × Int) : Prop := 0 ≤ p.1 ∧ p.1 < g.W ∧ 0 ≤ p.2 ∧ p.2 < g.H
def Stp (g : Grid) (p q : Int × Int) : Prop := (q.2 = p.2 ∧ q.1 = p.1 + sgB (g.e p.2) ∧ 0 ≤ q.1 ∧ q.1 < g.W) ∨ (q.1 = p.1 ∧ q.2 = p.2 + sgB (g.n p.1) ∧ 0 ≤ q.2 ∧ q.2 < g.H)
inductive Rch (g : Grid) (p : Int × Int) : Int × Int → Prop
  | refl : Rch g p p
  | tail {q r : Int × Int} (h : Rch g p q) (s : g.Stp q r) : Rch g p r
def op (g : Grid) : Grid := ⟨g.W, g.H, fun y => !g.e y, fun x => !g.n x⟩
def tr (g : Grid) : Grid := ⟨g.H, g.W, g.n, g.e⟩
variable {g : Grid} {p q r : Int × Int}
theorem Rch.trans (h : Rch g p q) (k : Rch g q r) : Rch g p r := by
  induction k with
  | refl => exact h
  | tail _ s ih => exact ih.tail s
theorem Stp.inn (h : g.In p) (s : g.Stp p q) : g.In q := by
  obtain ⟨h1, h2, h3, h4⟩ := h
  rcases s with ⟨s1, s2, s3, s4⟩ | ⟨s1, s2, s3, s4⟩
  · exact ⟨s3, s4, by omega, by omega⟩
  · exact ⟨by omega, by omega, s3, s4⟩
theorem Rch.inn (h : g.In p) (k : Rch g p q) : g.In q := by
  induction k with
  | refl => exact h
  | tail _ s ih => exact Stp.inn ih s
theorem Rch.head (s : g.Stp p q) (k : Rch g q r) : Rch g p r := (Rch.refl.tail s).trans k
theorem sgB_not (b : Bool) : sgB (!b) = -sgB b := by cases b <;> rfl
theorem Stp.op (h : g.In p) (s : g.Stp p q) : g.op.Stp q p := by
  obtain ⟨h1, h2, h3, h4⟩ := h
  rcases s with ⟨s1, s2, s3, s4⟩ | ⟨s1, s2, s3, s4⟩
  · left
    refine ⟨s1.symm, ?_, h1, h2⟩
    show p.1 = q.1 + sgB (!g.e q.2)
    rw [s1, sgB_not]
    omega
  · right
    refine ⟨s1.symm, ?_, h3, h4⟩
    show p.2 = q.2 + sgB (!g.n q.1)
    rw [s1, sgB_not]
    omega
theorem Rch.op (h : g.In p) (k : Rch g p q) : Rch g.op q p := by
  induction k with
  | refl => exact .refl
  | tail k s ih => exact Rch.head (Stp.op (k.inn h) s) ih
def sw (p : Int × Int) : Int × Int := (p.2, p.1)
theorem Stp.tr (s : g.Stp p q) : g.tr.Stp (sw p) (sw q) := by
  rcases s with s | s
  · exact .inr s
  · exact .inl s
theorem Rch.tr (k : Rch g p q) : Rch g.tr (sw p) (sw q) := by
  induction k with
  | refl => exact .refl
  | tail k s ih => exact ih.tail (Stp.tr s)
theorem Rch.of_tr (k : Rch g.tr (sw p) (sw q)) : Rch g p q := Rch.tr k
theorem In.tr (h : g.In p) : g.tr.In (sw p) := ⟨h.2.2.1, h.2.2.2, h.1, h.2.1⟩
theorem east {x y : Int} (he : g.e y = true) (h0 : 0 ≤ x) : ∀ (k : Nat), x + k < g.W → Rch g (x, y) (x + k, y)
  | 0, _ => by simpa using Rch.refl
  | k + 1, h => (east he h0 k (by omega)).tail (.inl ⟨rfl, by show x + ((k + 1 : Nat) : Int) = x + (k : Int) + sgB (g.e y); rw [he, sgB_t]; omega, by show 0 ≤ x + ((k + 1 : Nat) : Int); omega, h⟩)
theorem west {x y : Int} (he : g.e y = false) (h0 : x < g.W) : ∀ (k : Nat), 0 ≤ x - k → Rch g (x, y) (x - k, y)
  | 0, _ => by simpa using Rch.refl
  | k + 1, h => (west he h0 k (by omega)).tail (.inl ⟨rfl, by show x - ((k + 1 : Nat) : Int) = x - (k : Int) + sgB (g.e y); rw [he, sgB_f]; omega, h, by show x - ((k + 1 : Nat) : Int) < g.W; omega⟩)
theorem row {x x' y : Int} (h : g.In (x, y)) (h' : g.In (x', y)) (a : ahd (g.e y) x x') : Rch g (x, y) (x', y) := by
  obtain ⟨h1, h2, _, _⟩ := h
  obtain ⟨h3, h4, _, _⟩ := h'
  simp only at h1 h2 h3 h4
  cases he : g.e y with
  | true =>
    rw [he, ahd_t] at a
    have := east he h1 (x' - x).toNat (by omega)
    have e : x + ((x' - x).toNat : Int) = x' := by omega
    rwa [e] at this
  | false =>
    rw [he, ahd_f] at a
    have := west he h2 (x - x').toNat (by omega)
    have e : x - ((x - x').toNat : Int) = x' := by omega
    rwa [e] at this
theorem col {x y y' : Int} (h : g.In (x, y)) (h' : g.In (x, y')) (a : ahd (g.n x) y y') : Rch g (x, y) (x, y') :=
  Rch.of_tr (row (g := g.tr) h.tr h'.tr a)
def All (g : Grid) (p : Int × Int) : Prop := (∀ y, 0 ≤ y → y < g.H → ∃ x, Rch g p (x, y)) ∧ ∀ x, 0 ≤ x → x < g.W → ∃ y, Rch g p (x, y)
structure Four (g : Grid) : Prop where
  e1 : ∃ y, 0 ≤ y ∧ y < g.H ∧ g.e y = true
  e0 : ∃ y, 0 ≤ y ∧ y < g.H ∧ g.e y = false
  n1 : ∃ x, 0 ≤ x ∧ x < g.W ∧ g.n x = true
  n0 : ∃ x, 0 ≤ x ∧ x < g.W ∧ g.n x = false
theorem Four.tr (f : Four g) : Four g.tr := ⟨f.n1, f.n0, f.e1, f.e0⟩
theorem Four.op (f : Four g) : Four g.op := by
  obtain ⟨⟨a, a1, a2, a3⟩, ⟨b, b1, b2, b3⟩, ⟨c, c1, c2, c3⟩, ⟨d, d1, d2, d3⟩⟩ := f
  exact ⟨⟨b, b1, b2, by simp [Grid.op, b3]⟩, ⟨a, a1, a2, by simp [Grid.op, a3]⟩, ⟨d, d1, d2, by simp [Grid.op, d3]⟩, ⟨c, c1, c2, by simp [Grid.op, c3]⟩⟩
theorem Four.e (f : Four g) (b : Bool) : ∃ y, 0 ≤ y ∧ y < g.H ∧ g.e y = b := by cases b; exact f.e0; exact f.e1
theorem Four.n (f : Four g) (b : Bool) : ∃ x, 0 ≤ x ∧ x < g.W ∧ g.n x = b := by cases b; exact f.n0; exact f.n1
end Grid
end CC
namespace CC
open PySem PySem.Spec PyProof.Rows L2
namespace Grid
variable {g : Grid} {p q : Int × Int}
end Grid
def Dif (l : Runs) : Prop := ∀ i p q, l[i]? = some p → l[i + 1]? = some q → p.1 ≠ q.1
theorem Dif.rev {l : Runs} (h : Dif l) : Dif l.reverse := by
  intro i p q h1 h2
  have l2 : i + 1 < l.length := by
    have := (List.getElem?_eq_some_iff.mp h2).1
    rwa [List.length_reverse] at this
  rw [List.getElem?_reverse (by omega)] at h1
  rw [List.getElem?_reverse l2] at h2
  have e : l.length - 1 - i = (l.length - 1 - (i + 1)) + 1 := by omega
  rw [e] at h1
  exact (h _ q p h2 h1).symm
end CC
namespace CC
open PySem PySem.Spec PyProof.Rows L2 Grid
section
variable {a b : Runs} {p q : Int × Int}
theorem ew : ("E" : Str) ≠ "W" := by decide
theorem ns : ("N" : Str) ≠ "S" := by decide
end
end CC
namespace CC
open PySem PySem.Spec PyProof.Rows L2 Grid
def rstep (acc : Runs) (x : Str) : Runs := match acc.getLast? with
  | some p => if p.1 = x then acc.dropLast ++ [(x, p.2 + 1)] else acc ++ [(x, 1)]
  | none => acc ++ [(x, 1)]
def rns (l : List Str) : Runs := l.foldl rstep []
structure RnsOk (A B : Str) (l : List Str) : Prop where
  tot : total (rns l) = l.length
  pos : ∀ p ∈ rns l, 1 ≤ p.2
  let_ : ∀ p ∈ rns l, p.1 = A ∨ p.1 = B
  dif : Dif (rns l)
  sgn : ∀ (i : Nat) (h : i < l.length), signL (rns l) i = l[i]
  len : (rns l).length ≤ l.length
  ne : l ≠ [] → rns l ≠ []
theorem dif_ascR : ∀ {l : Runs}, Dif l → ascR l = true := by
  intro l h
  unfold ascR
  refine List.all_eq_true.mpr fun pq hpq => ?_
  obtain ⟨i, hi, e⟩ := List.getElem_of_mem hpq
  obtain ⟨p, q⟩ := pq
  have : (l.zip l.tail)[i]? = some (p, q) := by rw [List.getElem?_eq_getElem hi, e]
  rw [List.getElem?_zip_eq_some] at this
  obtain ⟨h1, h2⟩ := this
  rw [List.getElem?_tail] at h2
  have := h i p q h1 h2
  simpa using this
theorem RnsOk.okR {A B : Str} {l : List Str} (h : RnsOk A B l) (h0 : l ≠ []) : okR A B (rns l) = true := by
  unfold CC.okR
  rw [Bool.and_eq_true, Bool.and_eq_true]
  refine ⟨⟨?_, ?_⟩, dif_ascR h.dif⟩
  · cases hr : rns l with
    | nil => exact absurd hr (h.ne h0)
    | cons _ _ => rfl
  · refine List.all_eq_true.mpr fun p hp => ?_
    rcases h.let_ p hp with e | e <;> simp [e, h.pos p hp]
def lgr (R C : List Str) : Grid := ⟨C.length, R.length, fun y => R.getD y.toNat "" == "E", fun x => C.getD x.toNat "" == "N"⟩
def nb (R C : List Str) (p : Int × Int) : List (Int × Int) :=
  (if 0 ≤ p.1 + sgB ((lgr R C).e p.2) ∧ p.1 + sgB ((lgr R C).e p.2) < C.length then [(p.1 + sgB ((lgr R C).e p.2), p.2)] else []) ++
  (if 0 ≤ p.2 + sgB ((lgr R C).n p.1) ∧ p.2 + sgB ((lgr R C).n p.1) < R.length then [(p.1, p.2 + sgB ((lgr R C).n p.1))] else [])
def nk (p : Int × Int) : NestedKey := .tup [.num p.1, .num p.2]
section
variable {S : Sto} {Q : D → Sto → Prop} {E : Nat → List D → Sto → Prop} {ks : List NestedKey} {ds : List D}
@[simp ↓] theorem fr_fm {S0 : Sto} : WR (trim S0 (frzD (.fm ks ds) S)) Q E = Q (.fm ks ds) (cutS S0 (ltL S0.length ds) S) := by rw [wp_trim]; show Q _ (cutS S0 _ S) = _; rw [lt_fm]
end
end CC
namespace CC
open PySem PySem.Spec PyProof.Rows L2 Grid
structure Kp (w : Int) (f : Int → Bool) (w' : Int) (f' : Int → Bool) (φ : Int → Int) : Prop where
  inn : ∀ x, 0 ≤ x → x < w' → 0 ≤ φ x ∧ φ x < w
  up : ∀ x y, 0 ≤ x → x < w' → 0 ≤ y → y < w' → (x ≤ y ↔ φ x ≤ φ y)
  eq : ∀ x, 0 ≤ x → x < w' → f' x = f (φ x)
  run : ∀ u, 0 ≤ u → u < w → ∃ x y, 0 ≤ x ∧ x < w' ∧ 0 ≤ y ∧ y < w' ∧ φ x ≤ u ∧ u ≤ φ y ∧ ∀ z, φ x ≤ z → z ≤ φ y → f z = f u
section
variable {w w' : Int} {f f' : Int → Bool} {φ : Int → Int} {x y : Int}
theorem Kp.ahd (k : Kp w f w' f' φ) {b : Bool} (x0 : 0 ≤ x) (x1 : x < w') (y0 : 0 ≤ y) (y1 : y < w') : CC.ahd b x y ↔ CC.ahd b (φ x) (φ y) := by
  cases b
  · rw [ahd_f, ahd_f]; exact k.up y x y0 y1 x0 x1
  · rw [ahd_t, ahd_t]; exact k.up x y x0 x1 y0 y1
theorem Kp.inj (k : Kp w f w' f' φ) (x0 : 0 ≤ x) (x1 : x < w') (y0 : 0 ≤ y) (y1 : y < w') : x = y ↔ φ x = φ y := by
  have h1 := k.up x y x0 x1 y0 y1
  have h2 := k.up y x y0 y1 x0 x1
  constructor
  · intro e; rw [e]
  · intro e
    have := h1.mpr (by omega)
    have := h2.mpr (by omega)
    omega
theorem Kp.not (k : Kp w f w' f' φ) : Kp w (fun z => !f z) w' (fun z => !f' z) φ where
  inn := k.inn
  up := k.up
  eq := fun x x0 x1 => by rw [k.eq x x0 x1]
  run := fun u u0 u1 => by
    obtain ⟨x, y, h1, h2, h3, h4, h5, h6, h7⟩ := k.run u u0 u1
    exact ⟨x, y, h1, h2, h3, h4, h5, h6, fun z z1 z2 => by rw [h7 z z1 z2]⟩
theorem Kp.some (k : Kp w f w' f' φ) {d : Bool} (h : ∃ z, 0 ≤ z ∧ z < w ∧ f z = d) : ∃ z, 0 ≤ z ∧ z < w' ∧ f' z = d := by
  obtain ⟨z, z0, z1, zd⟩ := h
  obtain ⟨x, y, h1, h2, h3, h4, h5, h6, h7⟩ := k.run z z0 z1
  exact ⟨x, h1, h2, by rw [k.eq x h1 h2, h7 (φ x) (Int.le_refl _) (by omega), zd]⟩
theorem Kp.all (k : Kp w f w' f' φ) {b : Bool} (x0 : 0 ≤ x) (x1 : x < w') :
    (∀ z, 0 ≤ z → z < w' → CC.ahd b x z → f' z = f' x) ↔ ∀ z, 0 ≤ z → z < w → CC.ahd b (φ x) z → f z = f (φ x) := by
  constructor
  · intro h z z0 z1 hz
    obtain ⟨u, v, h1, h2, h3, h4, h5, h6, h7⟩ := k.run z z0 z1
    cases b with
    | true =>
      rw [ahd_t] at hz
      have := h v h3 h4 (by rw [ahd_t]; exact (k.up x v x0 x1 h3 h4).mpr (by omega))
      rw [k.eq v h3 h4, k.eq x x0 x1] at this
      rw [← this, h7 (φ v) (by omega) (Int.le_refl _)]
    | false =>
      rw [ahd_f] at hz
      have := h u h1 h2 (by rw [ahd_f]; exact (k.up u x h1 h2 x0 x1).mpr (by omega))
      rw [k.eq u h1 h2, k.eq x x0 x1] at this
      rw [← this, h7 (φ u) (Int.le_refl _) (by omega)]
  · intro h z z0 z1 hz
    rw [k.eq z z0 z1, k.eq x x0 x1]
    exact h (φ z) (k.inn z z0 z1).1 (k.inn z z0 z1).2 ((k.ahd x0 x1 z0 z1).mp hz)
end
namespace Grid
structure Keeps (g h : Grid) (φ ψ : Int → Int) : Prop where
  x : Kp g.W g.n h.W h.n φ
  y : Kp g.H g.e h.H h.e ψ
section
variable {g h : Grid} {φ ψ : Int → Int} {p q : Int × Int}
theorem Keeps.tr (k : Keeps g h φ ψ) : Keeps g.tr h.tr ψ φ := ⟨k.y, k.x⟩
theorem Keeps.op (k : Keeps g h φ ψ) : Keeps g.op h.op φ ψ := ⟨k.x.not, k.y.not⟩
theorem Keeps.inn (k : Keeps g h φ ψ) (hp : h.In p) : g.In (φ p.1, ψ p.2) := by
  obtain ⟨h1, h2, h3, h4⟩ := hp
  exact ⟨(k.x.inn _ h1 h2).1, (k.x.inn _ h1 h2).2, (k.y.inn _ h3 h4).1, (k.y.inn _ h3 h4).2⟩
end
end Grid
end CC
namespace CC
open PySem PySem.Spec PyProof.Rows L2 Grid
theorem Dif.left {l m : Runs} (h : Dif (l ++ m)) : Dif l := by
  intro i x y hx hy
  have h1 := (List.getElem?_eq_some_iff.mp hx).1
  have h2 := (List.getElem?_eq_some_iff.mp hy).1
  exact h i x y (by rw [List.getElem?_append_left h1]; exact hx) (by rw [List.getElem?_append_left h2]; exact hy)
theorem cut_ext {S J0 J : List SO} {b : Bool} : ∃ G1, cutS (S ++ J0) b (S ++ J) = S ++ G1 := by
  unfold cutS
  split
  · refine ⟨J.take J0.length, ?_⟩
    rw [List.length_append, List.take_append, List.take_of_length_le (by omega)]
    congr 1
    congr 1
    omega
  · exact ⟨J, rfl⟩
theorem fz_any {i m : Nat} {S J0 J : Sto} {ρ : Env} {p : Po} {ds : List D} (h : ρ[i]?.bind id = some (.loc m)) (e : (S ++ J)[m]? = some (.lst ds)) (hm : S.length ≤ m) (hp : ∀ G1, p.nx (ρ.set i (some (.fl ds))) (S ++ G1)) : Ws (fzE i (S ++ J0) ρ (S ++ J)) p := by
  rw [fz_at h e, List.set_append_right _ _ hm]
  obtain ⟨G1, eG⟩ := cut_ext (S := S) (J0 := J0) (J := J.set (m - S.length) (.frz ds)) (b := envLt (S ++ J0).length (ρ.set i (some (.fl ds))))
  rw [eG]
  exact hp G1
theorem fz_any0 {i m : Nat} {S J : Sto} {ρ : Env} {p : Po} {ds : List D} (h : ρ[i]?.bind id = some (.loc m)) (e : (S ++ J)[m]? = some (.lst ds)) (hm : S.length ≤ m) (hp : ∀ G1, p.nx (ρ.set i (some (.fl ds))) (S ++ G1)) : Ws (fzE i S ρ (S ++ J)) p := by
  have := fz_any (J0 := []) h e hm hp
  rwa [List.append_nil] at this
end CC
namespace CC
open PySem PySem.Spec PyProof.Rows L2
abbrev f_is_integer : Nat := 0
abbrev f_is_run : Nat := 1
abbrev f_are_runs : Nat := 2
abbrev f_is_city : Nat := 3
abbrev f_read_number : Nat := 4
abbrev f_read_run : Nat := 5
abbrev f_read_point : Nat := 6
abbrev f_is_path : Nat := 7
abbrev f_format_runs : Nat := 8
abbrev f_format_city : Nat := 9
abbrev f_format_drive : Nat := 10
abbrev f_parse_city : Nat := 11
abbrev f_parse_drive : Nat := 12
abbrev f__law_source : Nat := 13
abbrev f__law_draw : Nat := 14
abbrev f__law_runs : Nat := 15
abbrev f__law_town : Nat := 16
abbrev f__law_number : Nat := 17
abbrev f__law_runs_of : Nat := 18
abbrev f__law_read : Nat := 19
abbrev f__law_is_number : Nat := 20
abbrev f__law_written : Nat := 21
abbrev f__law_told : Nat := 22
abbrev f__law_right : Nat := 23
abbrev f__law_bent_text : Nat := 24
abbrev f__law_bent : Nat := 25
abbrev f__law_long_right : Nat := 26
abbrev f_law : Nat := 27
def bd_is_integer : Sx := (.cons (.ret (.and (.bi .isinst (.cons (.var 0) (.cons (.tyc "int") .nil))) (.and (.nt (.bi .isinst (.cons (.var 0) (.cons (.tyc
  "bool") .nil)))) (.cmp .GtE (.var 0) (.var 1))))) .nil)
def bd_is_run : Sx := (.cons (.iff (.or (.nt (.bi .isinst (.cons (.var 0) (.cons (.tyc "tuple") .nil)))) (.cmp .NotEq (.bi .len (.cons (.var 0) .nil)) (.int
  2))) (.cons (.ret (.bl false)) .nil) .nil) (.cons (.ret (.and (.bi .isinst (.cons (.ix (.var 0) (.int 0)) (.cons (.tyc "str") .nil))) (.and (.cmp .In (.ix
  (.var 0) (.int 0)) (.var 1)) (.call 0 (.cons (.ix (.var 0) (.int 1)) (.cons (.int 1) .nil)))))) .nil))
def bd_are_runs : Sx := (.cons (.iff (.or (.nt (.bi .isinst (.cons (.var 0) (.cons (.tyc "tuple") .nil)))) (.or (.cmp .Eq (.bi .len (.cons (.var 0) .nil))
  (.int 0)) (.nt (.bi .all (.cons (.frzv (.lc (.itr (.var 0)) (.var 4) (.call 1 (.cons (.var 4) (.cons (.var 1) .nil))) (.bl true) [4])) .nil))))) (.cons (.ret
  (.bl false)) .nil) .nil) (.cons (.ret (.bi .all (.cons (.frzv (.lc (.zip2 (.var 0) (.frzv (.sl (.var 0) (.cons (.int 1) .nil) .nil))) (.tup (.cons (.var 2)
  (.cons (.var 3) .nil))) (.cmp .NotEq (.ix (.var 2) (.int 0)) (.ix (.var 3) (.int 0))) (.bl true) [2, 3])) .nil))) .nil))
def bd_is_city : Sx := (.cons (.iff (.or (.nt (.bi .isinst (.cons (.var 0) (.cons (.tyc "tuple") .nil)))) (.cmp .NotEq (.bi .len (.cons (.var 0) .nil)) (.int
  2))) (.cons (.ret (.bl false)) .nil) .nil) (.cons (.ret (.and (.call 2 (.cons (.ix (.var 0) (.int 0)) (.cons (.tup (.cons (.glo 0) (.cons (.glo 1) .nil)))
  .nil))) (.call 2 (.cons (.ix (.var 0) (.int 1)) (.cons (.tup (.cons (.glo 2) (.cons (.glo 3) .nil))) .nil))))) .nil))
def bd_read_number : Sx := (.cons (.iff (.or (.cmp .Eq (.var 0) (.str "")) (.nt (.bi .all (.cons (.frzv (.lc (.itr (.var 0)) (.var 1) (.cmp .In (.var 1) (.glo
  7)) (.bl true) [1])) .nil)))) (.cons (.ret .non) .nil) .nil) (.cons (.ret (.ife (.or (.cmp .NotEq (.ix (.var 0) (.int 0)) (.str "0")) (.cmp .Eq (.var 0)
  (.str "0"))) (.prm intF (.cons (.var 0) .nil)) .non)) .nil))
def bd_read_run : Sx := (.cons (.asg (.var 1) (.call 4 (.cons (.frzv (.sl (.var 0) (.cons (.int 1) .nil) .nil)) .nil))) (.cons (.ret (.ife (.cmp .Is (.var 1)
  .non) .non (.tup (.cons (.ix (.var 0) (.int 0)) (.cons (.var 1) .nil))))) .nil))
def bd_read_point : Sx := (.cons (.fz 1 (.asg (.var 1) (.lc (.itr (.prm splF (.cons (.prm asStrF (.cons (.var 0) .nil)) (.cons (.glo 6) .nil)))) (.var 2)
  (.call 4 (.cons (.var 2) .nil)) (.bl true) [2]))) (.cons (.ret (.ife (.and (.cmp .Eq (.bi .len (.cons (.var 1) .nil)) (.int 2)) (.cmp .NotIn .non (.var 1)))
  (.bi .tuple (.cons (.var 1) .nil)) .non)) .nil))
def bd_is_path : Sx := (.cons (.iff (.or (.nt (.bi .isinst (.cons (.var 0) (.cons (.tyc "list") .nil)))) (.cmp .Eq (.var 0) (.frzv (.lst .nil)))) (.cons (.ret
  (.bl false)) .nil) .nil) (.cons (.for_ (.var 1) (.itr (.var 0)) (.cons (.iff (.or (.nt (.bi .isinst (.cons (.var 1) (.cons (.tyc "tuple") .nil)))) (.or (.cmp
  .NotEq (.bi .len (.cons (.var 1) .nil)) (.int 2)) (.nt (.bi .all (.cons (.frzv (.lc (.itr (.var 1)) (.var 2) (.call 0 (.cons (.var 2) (.cons (.int 0) .nil)))
  (.bl true) [2])) .nil))))) (.cons (.ret (.bl false)) .nil) .nil) .nil)) (.cons (.ret (.bl true)) .nil)))
def bd_format_runs : Sx := (.cons (.ret (.prm joiF (.cons (.prm asStrF (.cons (.glo 4) .nil)) (.cons (.frzv (.lc (.itr (.var 0)) (.tup (.cons (.var 1) (.cons
  (.var 2) .nil))) (.bin .Add (.var 1) (.bi .str (.cons (.var 2) .nil))) (.bl true) [1, 2])) .nil)))) .nil)
def bd_format_city : Sx := (.cons (.iff (.nt (.call 3 (.cons (.var 0) .nil))) (.cons (.rse 1 .nil) .nil) .nil) (.cons (.ret (.bin .Add (.bin .Add (.call 8
  (.cons (.ix (.var 0) (.int 0)) .nil)) (.glo 5)) (.call 8 (.cons (.ix (.var 0) (.int 1)) .nil)))) .nil))
def bd_format_drive : Sx := (.cons (.iff (.nt (.call 7 (.cons (.var 0) .nil))) (.cons (.rse 5 .nil) .nil) .nil) (.cons (.ret (.prm joiF (.cons (.prm asStrF
  (.cons (.glo 4) .nil)) (.cons (.frzv (.lc (.itr (.var 0)) (.tup (.cons (.var 1) (.cons (.var 2) .nil))) (.bin .Add (.bin .Add (.bi .str (.cons (.var 1)
  .nil)) (.glo 6)) (.bi .str (.cons (.var 2) .nil))) (.bl true) [1, 2])) .nil)))) .nil))
def bd_parse_city : Sx := (.cons (.iff (.nt (.bi .isinst (.cons (.var 0) (.cons (.tyc "str") .nil)))) (.cons (.rse 7 .nil) .nil) .nil) (.cons (.asg (.var 1)
  (.bi .tuple (.cons (.frzv (.lc (.itr (.prm splF (.cons (.prm asStrF (.cons (.var 0) .nil)) (.cons (.glo 5) .nil)))) (.var 2) (.bi .tuple (.cons (.frzv (.lc
  (.itr (.prm splF (.cons (.prm asStrF (.cons (.var 2) .nil)) (.cons (.glo 4) .nil)))) (.var 3) (.call 5 (.cons (.var 3) .nil)) (.bl true) [3])) .nil)) (.bl
  true) [2])) .nil))) (.cons (.iff (.nt (.call 3 (.cons (.var 1) .nil))) (.cons (.rse 7 .nil) .nil) .nil) (.cons (.ret (.var 1)) .nil))))
def bd_parse_drive : Sx := (.cons (.iff (.nt (.bi .isinst (.cons (.var 0) (.cons (.tyc "str") .nil)))) (.cons (.rse 7 .nil) .nil) .nil) (.cons (.fz 1 (.asg
  (.var 1) (.lc (.itr (.prm splF (.cons (.prm asStrF (.cons (.var 0) .nil)) (.cons (.glo 4) .nil)))) (.var 2) (.call 6 (.cons (.var 2) .nil)) (.bl true) [2])))
  (.cons (.iff (.cmp .In .non (.var 1)) (.cons (.rse 7 .nil) .nil) .nil) (.cons (.ret (.var 1)) .nil))))
def bd__law_source : Sx := (.cons (.asg (.var 2) (.ife (.cmp .Lt (.var 1) (.bi .len (.cons (.var 0) .nil))) (.ix (.var 0) (.var 1)) (.int 0))) (.cons (.ret
  (.lst (.cons (.bi .max (.cons (.int 0) (.cons (.bin .Sub (.bi .abs (.cons (.var 2) .nil)) (.bin .Pow (.int 10) (.int 18))) .nil))) (.cons (.bin .Add (.bin
  .Mod (.var 2) (.bin .Add (.bin .Pow (.int 10) (.int 40)) (.int 121))) (.bin .Mult (.int 39916801) (.var 1))) (.cons (.int 0) .nil))))) .nil))
def bd__law_draw : Sx := (.cons (.iff (.cmp .Gt (.ix (.var 0) (.int 0)) (.int 0)) (.cons (.asg (.var 2) (.bin .Mod (.ix (.var 0) (.int 0)) (.var 1))) (.cons
  (.asg (.ix (.var 0) (.int 0)) (.bin .FloorDiv (.ix (.var 0) (.int 0)) (.var 1))) (.cons (.ret (.var 2)) .nil))) .nil) (.cons (.asg (.ix (.var 0) (.int 2))
  (.bin .Add (.ix (.var 0) (.int 2)) (.int 1))) (.cons (.asg (.var 3) (.bin .Mod (.bin .Pow (.bin .Add (.ix (.var 0) (.int 1)) (.bin .Mult (.int 179424673)
  (.ix (.var 0) (.int 2)))) (.int 3)) (.bin .Add (.bin .Pow (.int 10) (.int 41)) (.int 37)))) (.cons (.asg (.var 3) (.bin .Mod (.bin .Pow (.bin .Add (.var 3)
  (.bin .Mult (.int 22801763489) (.ix (.var 0) (.int 2)))) (.int 3)) (.bin .Add (.bin .Pow (.int 10) (.int 40)) (.int 121)))) (.cons (.ret (.bin .Mod (.bin
  .FloorDiv (.var 3) (.int 262147)) (.var 1))) .nil)))))
def bd__law_runs : Sx := (.cons (.par [4, 5] (.cons (.call 14 (.cons (.var 0) (.cons (.int 2) .nil))) (.cons (.lst .nil) .nil))) (.cons (.fz 5 (.for_ (.var 6)
  (.rng1 (.bin .Add (.int 1) (.call 14 (.cons (.var 0) (.cons (.var 2) .nil))))) (.cons (.asg (.var 7) (.ix (.frzv (.lst (.cons (.int 1) (.cons (.bin .Add
  (.int 1) (.call 14 (.cons (.var 0) (.cons (.int 3) .nil)))) (.cons (.bin .Add (.int 1) (.call 14 (.cons (.var 0) (.cons (.var 3) .nil)))) .nil))))) (.call 14
  (.cons (.var 0) (.cons (.int 3) .nil))))) (.cons (.ex (.mt .append (.var 5) (.cons (.tup (.cons (.ix (.var 1) (.bin .Mod (.bin .Add (.var 4) (.var 6)) (.int
  2))) (.cons (.var 7) .nil))) .nil))) .nil)))) (.cons (.ret (.bi .tuple (.cons (.var 5) .nil))) .nil)))
def bd__law_town : Sx := (.cons (.ret (.tup (.cons (.call 15 (.cons (.var 0) (.cons (.str "EW") (.cons (.var 1) (.cons (.var 2) .nil))))) (.cons (.call 15
  (.cons (.var 0) (.cons (.str "NS") (.cons (.var 1) (.cons (.var 2) .nil))))) .nil)))) .nil)
def bd__law_number : Sx := (.cons (.iff (.or (.cmp .Eq (.var 0) (.str "")) (.or (.cmp .NotEq (.frzv (.lc (.itr (.var 0)) (.var 1) (.var 1) (.cmp .NotIn (.var
  1) (.str "0123456789")) [1])) (.frzv (.lst .nil))) (.and (.cmp .Eq (.ix (.var 0) (.int 0)) (.str "0")) (.cmp .Gt (.bi .len (.cons (.var 0) .nil)) (.int
  1))))) (.cons (.ret (.neg (.int 1))) .nil) .nil) (.cons (.asg (.var 2) (.int 0)) (.cons (.for_ (.var 1) (.itr (.var 0)) (.cons (.asg (.var 2) (.bin .Add
  (.bin .Mult (.var 2) (.int 10)) (.prm sixF (.cons (.prm asStrF (.cons (.str "0123456789") .nil)) (.cons (.var 1) .nil))))) .nil)) (.cons (.ret (.var 2))
  .nil))))
def bd__law_runs_of : Sx := (.cons (.asg (.var 2) (.lst .nil)) (.cons (.fz 2 (.for_ (.var 3) (.itr (.prm splF (.cons (.prm asStrF (.cons (.var 0) .nil)) (.cons
  (.str " ") .nil)))) (.cons (.asg (.var 4) (.call 17 (.cons (.frzv (.sl (.var 3) (.cons (.int 1) .nil) .nil)) .nil))) (.cons (.iff (.or (.cmp .NotIn (.frzv
  (.sl (.var 3) .nil (.cons (.int 1) .nil))) (.frzv (.lst (.cons (.ix (.var 1) (.int 0)) (.cons (.ix (.var 1) (.int 1)) .nil))))) (.or (.cmp .Lt (.var 4) (.int
  1)) (.and (.cmp .NotEq (.var 2) (.frzv (.lst .nil))) (.cmp .Eq (.ix (.ix (.var 2) (.neg (.int 1))) (.int 0)) (.ix (.var 3) (.int 0)))))) (.cons (.ret .non)
  .nil) .nil) (.cons (.ex (.mt .append (.var 2) (.cons (.tup (.cons (.ix (.var 3) (.int 0)) (.cons (.var 4) .nil))) .nil))) .nil))))) (.cons (.ret (.bi .tuple
  (.cons (.var 2) .nil))) .nil)))
def bd__law_read : Sx := (.cons (.iff (.nt (.bi .isinst (.cons (.var 1) (.cons (.tyc "str") .nil)))) (.cons (.ret .non) .nil) .nil) (.cons (.iff (.cmp .Eq
  (.var 0) (.int 0)) (.cons (.asg (.var 2) (.prm splF (.cons (.prm asStrF (.cons (.var 1) .nil)) (.cons (.str " | ") .nil)))) (.cons (.iff (.cmp .NotEq (.bi
  .len (.cons (.var 2) .nil)) (.int 2)) (.cons (.ret .non) .nil) .nil) (.cons (.fz 3 (.asg (.var 3) (.tup (.cons (.call 18 (.cons (.ix (.var 2) (.int 0))
  (.cons (.str "EW") .nil))) (.cons (.call 18 (.cons (.ix (.var 2) (.int 1)) (.cons (.str "NS") .nil))) .nil))))) (.cons (.ret (.ife (.or (.cmp .Is (.ix (.var
  3) (.int 0)) .non) (.cmp .Is (.ix (.var 3) (.int 1)) .non)) .non (.var 3))) .nil)))) .nil) (.cons (.asg (.var 3) (.lst .nil)) (.cons (.fz 3 (.for_ (.var 4)
  (.itr (.prm splF (.cons (.prm asStrF (.cons (.var 1) .nil)) (.cons (.str " ") .nil)))) (.cons (.fz 5 (.asg (.var 5) (.lc (.itr (.prm splF (.cons (.prm asStrF
  (.cons (.var 4) .nil)) (.cons (.str ",") .nil)))) (.var 6) (.call 17 (.cons (.var 6) .nil)) (.bl true) [6]))) (.cons (.iff (.or (.cmp .NotEq (.bi .len (.cons
  (.var 5) .nil)) (.int 2)) (.cmp .Lt (.bi .min (.cons (.var 5) .nil)) (.int 0))) (.cons (.ret .non) .nil) .nil) (.cons (.ex (.mt .append (.var 3) (.cons (.bi
  .tuple (.cons (.var 5) .nil)) .nil))) .nil))))) (.cons (.ret (.frzv (.var 3))) .nil)))))
def bd__law_is_number : Sx := (.cons (.ret (.and (.bi .isinst (.cons (.var 0) (.cons (.tyc "int") .nil))) (.and (.nt (.bi .isinst (.cons (.var 0) (.cons (.tyc
  "bool") .nil)))) (.cmp .GtE (.var 0) (.var 1))))) .nil)
def bd__law_written : Sx := (.cons (.iff (.cmp .Eq (.var 0) (.int 1)) (.cons (.iff (.or (.nt (.bi .isinst (.cons (.var 1) (.cons (.tyc "list") .nil)))) (.cmp
  .Eq (.var 1) (.frzv (.lst .nil)))) (.cons (.ret .non) .nil) .nil) (.cons (.for_ (.var 2) (.itr (.var 1)) (.cons (.iff (.or (.nt (.bi .isinst (.cons (.var 2)
  (.cons (.tyc "tuple") .nil)))) (.cmp .NotEq (.bi .len (.cons (.var 2) .nil)) (.int 2))) (.cons (.ret .non) .nil) .nil) (.cons (.iff (.or (.nt (.call 20
  (.cons (.ix (.var 2) (.int 0)) (.cons (.int 0) .nil)))) (.nt (.call 20 (.cons (.ix (.var 2) (.int 1)) (.cons (.int 0) .nil))))) (.cons (.ret .non) .nil)
  .nil) .nil))) (.cons (.ret (.prm joiF (.cons (.prm asStrF (.cons (.str " ") .nil)) (.cons (.frzv (.lc (.itr (.var 1)) (.tup (.cons (.var 8) (.cons (.var 9)
  .nil))) (.bin .Add (.bin .Add (.bi .str (.cons (.var 8) .nil)) (.str ",")) (.bi .str (.cons (.var 9) .nil))) (.bl true) [8, 9])) .nil)))) .nil))) .nil)
  (.cons (.iff (.or (.nt (.bi .isinst (.cons (.var 1) (.cons (.tyc "tuple") .nil)))) (.cmp .NotEq (.bi .len (.cons (.var 1) .nil)) (.int 2))) (.cons (.ret
  .non) .nil) .nil) (.cons (.for_ (.tup (.cons (.var 3) (.cons (.var 4) .nil))) (.enum (.frzv (.lst (.cons (.str "EW") (.cons (.str "NS") .nil))))) (.cons
  (.iff (.or (.nt (.bi .isinst (.cons (.ix (.var 1) (.var 3)) (.cons (.tyc "tuple") .nil)))) (.cmp .Eq (.bi .len (.cons (.ix (.var 1) (.var 3)) .nil)) (.int
  0))) (.cons (.ret .non) .nil) .nil) (.cons (.asg (.var 5) (.str "")) (.cons (.for_ (.var 6) (.itr (.ix (.var 1) (.var 3))) (.cons (.iff (.or (.nt (.bi
  .isinst (.cons (.var 6) (.cons (.tyc "tuple") .nil)))) (.or (.cmp .NotEq (.bi .len (.cons (.var 6) .nil)) (.int 2)) (.nt (.bi .isinst (.cons (.ix (.var 6)
  (.int 0)) (.cons (.tyc "str") .nil)))))) (.cons (.ret .non) .nil) .nil) (.cons (.iff (.or (.cmp .NotIn (.ix (.var 6) (.int 0)) (.frzv (.lst (.cons (.ix (.var
  4) (.int 0)) (.cons (.ix (.var 4) (.int 1)) .nil))))) (.or (.cmp .Eq (.ix (.var 6) (.int 0)) (.var 5)) (.nt (.call 20 (.cons (.ix (.var 6) (.int 1)) (.cons
  (.int 1) .nil)))))) (.cons (.ret .non) .nil) .nil) (.cons (.asg (.var 5) (.ix (.var 6) (.int 0))) .nil)))) .nil)))) (.cons (.ret (.prm joiF (.cons (.prm
  asStrF (.cons (.str " | ") .nil)) (.cons (.frzv (.lc (.itr (.var 1)) (.var 7) (.prm joiF (.cons (.prm asStrF (.cons (.str " ") .nil)) (.cons (.frzv (.lc
  (.itr (.var 7)) (.tup (.cons (.var 10) (.cons (.var 11) .nil))) (.bin .Add (.var 10) (.bi .str (.cons (.var 11) .nil))) (.bl true) [10, 11])) .nil))) (.bl
  true) [7])) .nil)))) .nil))))
def bd__law_told : Sx := (.cons (.asg (.var 3) .non) (.cons (.tryA (.tryA (.tryA (.cons (.iff (.cmp .Eq (.var 0) (.int 0)) (.cons (.asg (.var 3) (.ife (.var 2)
  (.callk 11 .nil (.cons (.var 1) .nil) [0]) (.call 11 (.cons (.var 1) .nil)))) .nil) (.cons (.iff (.cmp .Eq (.var 0) (.int 1)) (.cons (.asg (.var 3) (.ife
  (.var 2) (.callk 12 .nil (.cons (.var 1) .nil) [0]) (.call 12 (.cons (.var 1) .nil)))) .nil) (.cons (.iff (.cmp .Eq (.var 0) (.int 2)) (.cons (.asg (.var 3)
  (.ife (.var 2) (.callk 9 .nil (.cons (.var 1) .nil) [0]) (.call 9 (.cons (.var 1) .nil)))) .nil) (.cons (.asg (.var 3) (.ife (.var 2) (.callk 10 .nil (.cons
  (.var 1) .nil) [0]) (.call 10 (.cons (.var 1) .nil)))) .nil)) .nil)) .nil)) .nil) none [(0, false), (1, false), (5, false), (7, true)] (.cons (.asg (.var 3)
  (.ife (.cmp .Lt (.var 0) (.int 2)) .non (.str "wrong class"))) .nil)) none [(0, false), (1, true), (5, false), (7, false)] (.cons (.asg (.var 3) (.ife (.cmp
  .Eq (.var 0) (.int 2)) .non (.str "wrong class"))) .nil)) none [(0, false), (1, false), (5, true), (7, false)] (.cons (.asg (.var 3) (.ife (.cmp .Eq (.var 0)
  (.int 3)) .non (.str "wrong class"))) .nil)) (.cons (.ret (.var 3)) .nil)))
def bd__law_right : Sx := (.cons (.asg (.var 2) (.bi .repr (.cons (.var 0) .nil))) (.cons (.asg (.var 3) (.frzv (.lst (.cons (.call 19 (.cons (.int 0) (.cons
  (.var 0) .nil))) (.cons (.call 19 (.cons (.int 1) (.cons (.var 0) .nil))) (.cons (.call 21 (.cons (.int 0) (.cons (.var 0) .nil))) (.cons (.call 21 (.cons
  (.int 1) (.cons (.var 0) .nil))) .nil))))))) (.cons (.fz 4 (.asg (.var 4) (.lc (.rng1 (.int 4)) (.var 5) (.call 22 (.cons (.var 5) (.cons (.var 0) (.cons
  (.var 1) .nil)))) (.bl true) [5]))) (.cons (.ret (.and (.cmp .Eq (.bi .repr (.cons (.var 4) .nil)) (.bi .repr (.cons (.var 3) .nil))) (.cmp .Eq (.bi .repr
  (.cons (.var 0) .nil)) (.var 2)))) .nil))))
def bd__law_bent_text : Sx := (.cons (.asg (.var 2) (.lst (.cons (.str " ") (.cons (.str "|") (.cons (.str " | ") (.cons (.str ",") (.cons (.str "E") (.cons
  (.str "W1") (.cons (.str "N1") (.cons (.str "S") (.cons (.str "0") (.cons (.str "1") (.cons (.str "-") (.cons (.str "+") (.cons (.str "e1") (.cons (.str
  "  ") (.cons (.str "\n") (.cons (.str ".") (.cons (.str "_") (.cons (.str "1,1") (.cons (.str " E2") .nil))))))))))))))))))))) (.cons (.fz 2 (.ex (.mt
  .append (.var 2) (.cons (.str "00") .nil)))) (.cons (.for_ (.var 3) (.rng1 (.bin .Add (.int 1) (.call 14 (.cons (.var 0) (.cons (.int 3) .nil))))) (.cons
  (.asg (.var 4) (.call 14 (.cons (.var 0) (.cons (.bin .Add (.bi .len (.cons (.var 1) .nil)) (.int 1)) .nil)))) (.cons (.asg (.var 5) (.bi .min (.cons (.bi
  .len (.cons (.var 1) .nil)) (.cons (.bin .Add (.bin .Add (.var 4) (.int 1)) (.call 14 (.cons (.var 0) (.cons (.int 2) .nil)))) .nil)))) (.cons (.asg (.var 6)
  (.ix (.var 2) (.call 14 (.cons (.var 0) (.cons (.int 20) .nil))))) (.cons (.asg (.var 7) (.lst (.cons (.frzv (.bin .Add (.frzv (.sl (.var 1) .nil (.cons
  (.var 4) .nil))) (.frzv (.sl (.var 1) (.cons (.var 5) .nil) .nil)))) (.cons (.frzv (.bin .Add (.frzv (.bin .Add (.frzv (.sl (.var 1) .nil (.cons (.var 4)
  .nil))) (.var 6))) (.frzv (.sl (.var 1) (.cons (.var 4) .nil) .nil)))) (.cons (.frzv (.bin .Add (.frzv (.bin .Add (.frzv (.sl (.var 1) .nil (.cons (.var 4)
  .nil))) (.var 6))) (.frzv (.sl (.var 1) (.cons (.var 5) .nil) .nil)))) .nil))))) (.cons (.fz 7 (.ex (.mt .append (.var 7) (.cons (.frzv (.bin .Add (.frzv
  (.sl (.var 1) .nil (.cons (.var 5) .nil))) (.frzv (.sl (.var 1) (.cons (.var 4) .nil) .nil)))) .nil)))) (.cons (.asg (.var 1) (.ix (.var 7) (.call 14 (.cons
  (.var 0) (.cons (.int 4) .nil))))) .nil))))))) (.cons (.ret (.var 1)) .nil))))
def bd__law_bent : Sx := (.cons (.asg (.var 2) (.frzv (.lst (.cons .non (.cons (.int 0) (.cons (.neg (.int 1)) (.cons (.bl true) (.cons (.str "") (.cons (.str
  "E") (.cons (.str "N1") (.cons (.tup .nil) (.cons (.frzv (.lst .nil)) (.cons (.frzv .dnew) (.cons (.tup (.cons (.str "E") (.cons (.int 1) .nil))) (.cons
  (.tup (.cons (.str "N") (.cons (.int 0) .nil))) (.cons (.tup (.cons (.int 0) (.cons (.int 0) .nil))) (.cons (.tup (.cons (.int 0) (.cons (.neg (.int 1))
  .nil))) (.cons (.tup (.cons (.int 1) (.cons (.bl true) .nil))) (.cons (.tup (.cons (.str "W") (.cons (.str "1") .nil))) .nil))))))))))))))))))) (.cons (.asg
  (.var 2) (.frzv (.bin .Add (.var 2) (.frzv (.lst (.cons (.frzv (.lst (.cons (.int 0) (.cons (.int 0) .nil)))) (.cons (.tup (.cons (.int 0) (.cons (.int 0)
  (.cons (.int 0) .nil)))) (.cons (.tup (.cons (.int 0) .nil)) (.cons (.tup (.cons (.str "S") (.cons (.bin .Pow (.int 10) (.int 31)) .nil))) .nil)))))))))
  (.cons (.iff (.or (.nt (.bi .isinst (.cons (.var 1) (.cons (.tup (.cons (.tyc "list") (.cons (.tyc "tuple") .nil))) .nil)))) (.or (.cmp .Eq (.bi .len (.cons
  (.var 1) .nil)) (.int 0)) (.cmp .Eq (.call 14 (.cons (.var 0) (.cons (.int 5) .nil))) (.int 0)))) (.cons (.ret (.ix (.var 2) (.call 14 (.cons (.var 0) (.cons
  (.int 20) .nil))))) .nil) .nil) (.cons (.par [3, 4] (.cons (.call 14 (.cons (.var 0) (.cons (.bi .len (.cons (.var 1) .nil)) .nil))) (.cons (.call 14 (.cons
  (.var 0) (.cons (.int 8) .nil))) .nil))) (.cons (.asg (.var 5) (.bi .list (.cons (.var 1) .nil))) (.cons (.iff (.cmp .Eq (.var 4) (.int 7)) (.cons (.ret
  (.frzv (.ife (.bi .isinst (.cons (.var 1) (.cons (.tyc "list") .nil))) (.bi .tuple (.cons (.var 5) .nil)) (.var 5)))) .nil) .nil) (.cons (.fz 5 (.iff (.cmp
  .Lt (.var 4) (.int 4)) (.cons (.asg (.ix (.var 5) (.var 3)) (.call 25 (.cons (.var 0) (.cons (.ix (.var 5) (.var 3)) .nil)))) .nil) (.cons (.iff (.cmp .Eq
  (.var 4) (.int 4)) (.cons (.ex (.mt .popAt (.var 5) (.cons (.var 3) .nil))) .nil) (.cons (.iff (.cmp .Eq (.var 4) (.int 5)) (.cons (.ex (.mt .insert (.var 5)
  (.cons (.var 3) (.cons (.ix (.var 2) (.call 14 (.cons (.var 0) (.cons (.int 20) .nil)))) .nil)))) .nil) (.cons (.ex (.mt .append (.var 5) (.cons (.ix (.var
  5) (.var 3)) .nil))) .nil)) .nil)) .nil))) (.cons (.ret (.frzv (.ife (.bi .isinst (.cons (.var 1) (.cons (.tyc "tuple") .nil))) (.bi .tuple (.cons (.var 5)
  .nil)) (.var 5)))) .nil))))))))
def bd__law_long_right : Sx := (.cons (.asg (.var 1) (.bin .Add (.prm joiF (.cons (.prm asStrF (.cons (.str " ") .nil)) (.cons (.frzv (.lc (.rng1 (.int 300))
  (.var 7) (.bin .Add (.ix (.str "EW") (.bin .Mod (.var 7) (.int 2))) (.bi .str (.cons (.bin .Add (.bin .Mult (.int 7) (.var 7)) (.int 1)) .nil))) (.bl true)
  [7])) .nil))) (.str " | "))) (.cons (.asg (.var 1) (.bin .Add (.var 1) (.prm joiF (.cons (.prm asStrF (.cons (.str " ") .nil)) (.cons (.frzv (.lc (.rng1
  (.int 200)) (.var 7) (.bin .Add (.ix (.str "NS") (.bin .Mod (.var 7) (.int 2))) (.bi .str (.cons (.bin .Add (.var 7) (.int 1)) .nil))) (.bl true) [7]))
  .nil))))) (.cons (.asg (.var 2) (.prm joiF (.cons (.prm asStrF (.cons (.str " ") .nil)) (.cons (.frzv (.lc (.rng1 (.int 300)) (.var 7) (.bin .Add (.bin .Add
  (.bi .str (.cons (.var 7) .nil)) (.str ",")) (.bi .str (.cons (.bin .Mult (.int 3) (.var 7)) .nil))) (.bl true) [7])) .nil)))) (.cons (.for_ (.var 3) (.itr
  (.frzv (.lst (.cons (.var 1) (.cons (.var 2) .nil))))) (.cons (.asg (.var 4) (.call 14 (.cons (.var 0) (.cons (.bi .len (.cons (.var 3) .nil)) .nil))))
  (.cons (.asg (.var 5) (.ix (.str "01 E|,S-") (.call 14 (.cons (.var 0) (.cons (.int 8) .nil))))) (.cons (.asg (.var 6) (.frzv (.bin .Add (.frzv (.bin .Add
  (.frzv (.sl (.var 3) .nil (.cons (.var 4) .nil))) (.var 5))) (.frzv (.sl (.var 3) (.cons (.bin .Add (.var 4) (.int 1)) .nil) .nil))))) (.cons (.iff (.or (.nt
  (.call 23 (.cons (.var 3) (.cons (.bl true) .nil)))) (.nt (.call 23 (.cons (.var 6) (.cons (.bl false) .nil))))) (.cons (.ret (.bl false)) .nil) .nil)
  .nil))))) (.cons (.ret (.bl true)) .nil)))))
def bd_law : Sx := (.cons (.asg (.var 1) (.frzv (.lst (.cons (.str "") (.cons (.str " ") (.cons (.str "|") (.cons (.str " | ") (.cons (.str "E1 | N1") (.cons
  (.str "E1|N1") (.cons (.str "E1 | N1 ") (.cons (.str " E1 | N1") (.cons (.str "E1  | N1") (.cons (.str "E1 | N1 | S1") (.cons (.str "N1 | E1")
  .nil)))))))))))))) (.cons (.asg (.var 1) (.frzv (.bin .Add (.var 1) (.frzv (.lst (.cons (.str "E1 E1 | N1") (.cons (.str "E0 | N1") (.cons (.str "E01 | N1")
  (.cons (.str "E | N1") (.cons (.str "e1 | N1") (.cons (.str "E1 W2 | S3 N4") (.cons (.str "E+1 | N1") .nil)))))))))))) (.cons (.asg (.var 1) (.frzv (.bin
  .Add (.var 1) (.frzv (.lst (.cons (.str "E1 | ") (.cons (.str "0,0") (.cons (.str "0,0 0,0") (.cons (.str "0,0 ") (.cons (.str "0") (.cons (.str "0,") (.cons
  (.str ",0") (.cons (.str "0,0,0") (.cons (.str "00,0") (.cons (.str "-1,0") (.cons (.str "0,-0") (.cons (.str "1.0,0") .nil))))))))))))))))) (.cons (.asg
  (.var 1) (.frzv (.bin .Add (.var 1) (.frzv (.lst (.cons (.str "0, 0") (.cons (.str "0,0 1") (.cons .non (.cons (.int 0) (.cons (.frzv (.lst .nil)) (.cons
  (.tup .nil) (.cons (.frzv .dnew) (.cons (.bl true) (.cons (.frzv (.lst (.cons (.tup (.cons (.int 0) (.cons (.int 0) .nil))) .nil))) (.cons (.frzv (.lst
  (.cons (.tup (.cons (.int 0) (.cons (.int 0) .nil))) (.cons (.tup (.cons (.int 0) (.cons (.int 0) .nil))) .nil)))) (.cons (.tup (.cons (.tup (.cons (.int 0)
  (.cons (.int 0) .nil))) .nil)) .nil)))))))))))))))) (.cons (.asg (.var 1) (.frzv (.bin .Add (.var 1) (.frzv (.lst (.cons (.frzv (.lst (.cons (.tup (.cons
  (.int 0) (.cons (.int 0) (.cons (.int 0) .nil)))) .nil))) (.cons (.frzv (.lst (.cons (.str "0,0") .nil))) (.cons (.frzv (.lst (.cons (.tup (.cons (.tup
  (.cons (.str "E") (.cons (.int 1) .nil))) .nil)) (.cons (.tup (.cons (.tup (.cons (.str "N") (.cons (.int 1) .nil))) .nil)) .nil)))) (.cons (.tup (.cons
  (.frzv (.lst (.cons (.tup (.cons (.str "E") (.cons (.int 1) .nil))) .nil))) (.cons (.tup (.cons (.tup (.cons (.str "N") (.cons (.int 1) .nil))) .nil))
  .nil))) (.cons (.tup (.cons (.str "E1") (.cons (.str "N1") .nil))) .nil)))))))))) (.cons (.asg (.var 1) (.frzv (.bin .Add (.var 1) (.frzv (.lst (.cons (.tup
  (.cons (.tup (.cons (.frzv (.lst (.cons (.str "E") (.cons (.int 1) .nil)))) .nil)) (.cons (.tup (.cons (.tup (.cons (.str "N") (.cons (.int 1) .nil))) .nil))
  .nil))) (.cons (.tup (.cons (.tup (.cons (.tup (.cons (.str "E") (.cons (.int 1) .nil))) .nil)) (.cons (.frzv (.lst (.cons (.tup (.cons (.str "N") (.cons
  (.int 1) .nil))) .nil))) .nil))) (.cons (.tup (.cons (.tup (.cons (.tup (.cons (.str "E") (.cons (.int 1) .nil))) .nil)) (.cons (.tup (.cons (.frzv (.lst
  (.cons (.str "N") (.cons (.int 1) .nil)))) .nil)) .nil))) (.cons (.frzv (.lst (.cons (.frzv (.lst (.cons (.int 0) (.cons (.int 0) .nil)))) .nil)))
  .nil))))))))) (.cons (.asg (.var 1) (.frzv (.bin .Add (.var 1) (.frzv (.lst (.cons (.tup (.cons (.tup (.cons (.tup (.cons (.str "E") (.cons (.int 1) .nil)))
  .nil)) (.cons (.tup (.cons (.tup (.cons (.str "N") (.cons (.int 1) .nil))) .nil)) .nil))) (.cons (.frzv (.lst (.cons (.frzv (.lst (.cons (.frzv (.lst (.cons
  (.str "E") (.cons (.int 1) .nil)))) .nil))) (.cons (.frzv (.lst (.cons (.frzv (.lst (.cons (.str "N") (.cons (.int 1) .nil)))) .nil))) .nil)))) (.cons (.tup
  (.cons (.frzv (.lst (.cons (.int 0) (.cons (.int 0) .nil)))) .nil)) .nil)))))))) (.cons (.for_ (.var 2) (.rng1 (.bi .max (.cons (.int 1) (.cons (.bi .min
  (.cons (.int 4) (.cons (.bi .len (.cons (.var 0) .nil)) .nil))) .nil)))) (.cons (.asg (.var 3) (.call 13 (.cons (.var 0) (.cons (.var 2) .nil)))) (.cons
  (.for_ (.var 4) (.rng1 (.int 10)) (.cons (.asg (.var 5) (.call 16 (.cons (.var 3) (.cons (.ix (.frzv (.lst (.cons (.int 3) (.cons (.int 20) .nil)))) (.bin
  .FloorDiv (.call 14 (.cons (.var 3) (.cons (.int 4) .nil))) (.int 3))) (.cons (.ix (.frzv (.lst (.cons (.int 3) (.cons (.bin .Pow (.int 10) (.int 30))
  .nil)))) (.call 14 (.cons (.var 3) (.cons (.int 2) .nil)))) .nil))))) (.cons (.asg (.var 6) (.bin .Add (.int 1) (.call 14 (.cons (.var 3) (.cons (.int 6)
  .nil))))) (.cons (.fz 7 (.asg (.var 7) (.lc (.rng1 (.var 6)) (.var 9) (.tup (.cons (.call 14 (.cons (.var 3) (.cons (.int 12) .nil))) (.cons (.call 14 (.cons
  (.var 3) (.cons (.bin .Pow (.int 10) (.int 20)) .nil))) .nil))) (.bl true) [9]))) (.cons (.for_ (.var 8) (.itr (.frzv (.lst (.cons (.call 21 (.cons (.int 0)
  (.cons (.var 5) .nil))) (.cons (.call 21 (.cons (.int 1) (.cons (.var 7) .nil))) .nil))))) (.cons (.iff (.nt (.call 23 (.cons (.call 24 (.cons (.var 3)
  (.cons (.var 8) .nil))) (.cons (.cmp .Eq (.bin .Mod (.var 4) (.int 2)) (.int 0)) .nil)))) (.cons (.ret (.bl false)) .nil) .nil) .nil)) (.cons (.for_ (.var 8)
  (.itr (.frzv (.lst (.cons (.var 5) (.cons (.var 7) .nil))))) (.cons (.iff (.nt (.call 23 (.cons (.call 25 (.cons (.var 3) (.cons (.var 8) .nil))) (.cons
  (.cmp .Eq (.bin .Mod (.var 4) (.int 2)) (.int 1)) .nil)))) (.cons (.ret (.bl false)) .nil) .nil) .nil)) .nil)))))) (.cons (.iff (.or (.cmp .NotEq (.frzv (.lc
  (.itr (.var 1)) (.var 8) (.var 8) (.nt (.call 23 (.cons (.var 8) (.cons (.cmp .Eq (.var 2) (.int 1)) .nil)))) [8])) (.frzv (.lst .nil))) (.nt (.call 26
  (.cons (.var 3) .nil)))) (.cons (.ret (.bl false)) .nil) .nil) .nil)))) (.cons (.ret (.bl true)) .nil)))))))))
def fd_is_integer : Fd := ⟨2, 2, bd_is_integer⟩
def fd_is_run : Fd := ⟨2, 2, bd_is_run⟩
def fd_are_runs : Fd := ⟨2, 5, bd_are_runs⟩
def fd_is_city : Fd := ⟨1, 1, bd_is_city⟩
def fd_read_number : Fd := ⟨1, 2, bd_read_number⟩
def fd_read_run : Fd := ⟨1, 2, bd_read_run⟩
def fd_read_point : Fd := ⟨1, 3, bd_read_point⟩
def fd_is_path : Fd := ⟨1, 3, bd_is_path⟩
def fd_format_runs : Fd := ⟨1, 3, bd_format_runs⟩
def fd_format_city : Fd := ⟨1, 1, bd_format_city⟩
def fd_format_drive : Fd := ⟨1, 3, bd_format_drive⟩
def fd_parse_city : Fd := ⟨1, 4, bd_parse_city⟩
def fd_parse_drive : Fd := ⟨1, 3, bd_parse_drive⟩
def fd__law_source : Fd := ⟨2, 3, bd__law_source⟩
def fd__law_draw : Fd := ⟨2, 4, bd__law_draw⟩
def fd__law_runs : Fd := ⟨4, 8, bd__law_runs⟩
def fd__law_town : Fd := ⟨3, 3, bd__law_town⟩
def fd__law_number : Fd := ⟨1, 3, bd__law_number⟩
def fd__law_runs_of : Fd := ⟨2, 5, bd__law_runs_of⟩
def fd__law_read : Fd := ⟨2, 7, bd__law_read⟩
def fd__law_is_number : Fd := ⟨2, 2, bd__law_is_number⟩
def fd__law_written : Fd := ⟨2, 12, bd__law_written⟩
def fd__law_told : Fd := ⟨3, 4, bd__law_told⟩
def fd__law_right : Fd := ⟨2, 6, bd__law_right⟩
def fd__law_bent_text : Fd := ⟨2, 8, bd__law_bent_text⟩
def fd__law_bent : Fd := ⟨2, 6, bd__law_bent⟩
def fd__law_long_right : Fd := ⟨1, 8, bd__law_long_right⟩
def fd_law : Fd := ⟨1, 10, bd_law⟩
def tbl : List Fd := [fd_is_integer, fd_is_run, fd_are_runs, fd_is_city, fd_read_number, fd_read_run, fd_read_point, fd_is_path, fd_format_runs, fd_format_city, fd_format_drive, fd_parse_city, fd_parse_drive, fd__law_source, fd__law_draw, fd__law_runs, fd__law_town, fd__law_number, fd__law_runs_of, fd__law_read, fd__law_is_number, fd__law_written, fd__law_told, fd__law_right, fd__law_bent_text, fd__law_bent, fd__law_long_right, fd_law]
def T : Nat → Option Fd := fun i => tbl[i]?
def nms : List Str := [("is_integer" : Str), ("is_run" : Str), ("are_runs" : Str), ("is_city" : Str), ("read_number" : Str), ("read_run" : Str), ("read_point" : Str), ("is_path" : Str), ("format_runs" : Str), ("format_city" : Str), ("format_drive" : Str), ("parse_city" : Str), ("parse_drive" : Str), ("_law_source" : Str), ("_law_draw" : Str), ("_law_runs" : Str), ("_law_town" : Str), ("_law_number" : Str), ("_law_runs_of" : Str), ("_law_read" : Str), ("_law_is_number" : Str), ("_law_written" : Str), ("_law_told" : Str), ("_law_right" : Str), ("_law_bent_text" : Str), ("_law_bent" : Str), ("_law_long_right" : Str), ("law" : Str)]
def gns : List Str := [("EAST" : Str), ("WEST" : Str), ("NORTH" : Str), ("SOUTH" : Str), ("SPACE" : Str), ("BAR" : Str), ("COMMA" : Str), ("DIGITS" : Str)]
def cns : List (Str × D) := [("EAST", .str "E"), ("WEST", .str "W"), ("NORTH", .str "N"), ("SOUTH", .str "S"), ("SPACE", .str " "), ("BAR", .str " | "), ("COMMA", .str ","), ("DIGITS", .str "0123456789")]
def tbs : List (Str × List (Str × D)) := []
def gvs : List D := [.str "E", .str "W", .str "N", .str "S", .str " ", .str " | ", .str ",", .str "0123456789"]
def G : Nat → Option D := fun i => gvs[i]?
def W : Nat := 2 ^ 40
noncomputable abbrev CF (k : Nat) : CallSem := callF W G T k
end CC
namespace CC
open PySem PySem.Spec PyProof.Rows L2
def topS (i : Nat) : Stmt := PySem.Challenge.pw_cornercity_k42_invalid_texts.main.body.getD i (.Pass ⟨0, 0, 0, 0⟩)
abbrev s_is_integer : Stmt := topS 10
abbrev s_is_run : Stmt := topS 11
abbrev s_are_runs : Stmt := topS 12
abbrev s_is_city : Stmt := topS 13
abbrev s_read_number : Stmt := topS 19
abbrev s_read_run : Stmt := topS 20
abbrev s_read_point : Stmt := topS 21
abbrev s_is_path : Stmt := topS 22
abbrev s_format_runs : Stmt := topS 23
abbrev s_format_city : Stmt := topS 24
abbrev s_format_drive : Stmt := topS 25
abbrev s_parse_city : Stmt := topS 26
abbrev s_parse_drive : Stmt := topS 27
abbrev s__law_source : Stmt := topS 29
abbrev s__law_draw : Stmt := topS 30
abbrev s__law_runs : Stmt := topS 31
abbrev s__law_town : Stmt := topS 32
abbrev s__law_number : Stmt := topS 33
abbrev s__law_runs_of : Stmt := topS 34
abbrev s__law_read : Stmt := topS 35
abbrev s__law_is_number : Stmt := topS 36
abbrev s__law_written : Stmt := topS 37
abbrev s__law_told : Stmt := topS 38
abbrev s__law_right : Stmt := topS 39
abbrev s__law_bent_text : Stmt := topS 40
abbrev s__law_bent : Stmt := topS 41
abbrev s__law_long_right : Stmt := topS 42
abbrev s_law : Stmt := topS 43
def d_is_integer : He.FnD := ⟨("is_integer", none), "is_integer", "is_integer", defArgs s_is_integer, defBody s_is_integer, defScope s_is_integer⟩
def d_is_run : He.FnD := ⟨("is_run", none), "is_run", "is_run", defArgs s_is_run, defBody s_is_run, defScope s_is_run⟩
def d_are_runs : He.FnD := ⟨("are_runs", none), "are_runs", "are_runs", defArgs s_are_runs, defBody s_are_runs, defScope s_are_runs⟩
def d_is_city : He.FnD := ⟨("is_city", none), "is_city", "is_city", defArgs s_is_city, defBody s_is_city, defScope s_is_city⟩
def d_read_number : He.FnD := ⟨("read_number", none), "read_number", "read_number", defArgs s_read_number, defBody s_read_number, defScope s_read_number⟩
def d_read_run : He.FnD := ⟨("read_run", none), "read_run", "read_run", defArgs s_read_run, defBody s_read_run, defScope s_read_run⟩
def d_read_point : He.FnD := ⟨("read_point", none), "read_point", "read_point", defArgs s_read_point, defBody s_read_point, defScope s_read_point⟩
def d_is_path : He.FnD := ⟨("is_path", none), "is_path", "is_path", defArgs s_is_path, defBody s_is_path, defScope s_is_path⟩
def d_format_runs : He.FnD := ⟨("format_runs", none), "format_runs", "format_runs", defArgs s_format_runs, defBody s_format_runs, defScope s_format_runs⟩
def d_format_city : He.FnD := ⟨("format_city", none), "format_city", "format_city", defArgs s_format_city, defBody s_format_city, defScope s_format_city⟩
def d_format_drive : He.FnD := ⟨("format_drive", none), "format_drive", "format_drive", defArgs s_format_drive, defBody s_format_drive, defScope s_format_drive⟩
def d_parse_city : He.FnD := ⟨("parse_city", none), "parse_city", "parse_city", defArgs s_parse_city, defBody s_parse_city, defScope s_parse_city⟩
def d_parse_drive : He.FnD := ⟨("parse_drive", none), "parse_drive", "parse_drive", defArgs s_parse_drive, defBody s_parse_drive, defScope s_parse_drive⟩
def d__law_source : He.FnD := ⟨("_law_source", none), "_law_source", "_law_source", defArgs s__law_source, defBody s__law_source, defScope s__law_source⟩
def d__law_draw : He.FnD := ⟨("_law_draw", none), "_law_draw", "_law_draw", defArgs s__law_draw, defBody s__law_draw, defScope s__law_draw⟩
def d__law_runs : He.FnD := ⟨("_law_runs", none), "_law_runs", "_law_runs", defArgs s__law_runs, defBody s__law_runs, defScope s__law_runs⟩
def d__law_town : He.FnD := ⟨("_law_town", none), "_law_town", "_law_town", defArgs s__law_town, defBody s__law_town, defScope s__law_town⟩
def d__law_number : He.FnD := ⟨("_law_number", none), "_law_number", "_law_number", defArgs s__law_number, defBody s__law_number, defScope s__law_number⟩
def d__law_runs_of : He.FnD := ⟨("_law_runs_of", none), "_law_runs_of", "_law_runs_of", defArgs s__law_runs_of, defBody s__law_runs_of, defScope s__law_runs_of⟩
def d__law_read : He.FnD := ⟨("_law_read", none), "_law_read", "_law_read", defArgs s__law_read, defBody s__law_read, defScope s__law_read⟩
def d__law_is_number : He.FnD := ⟨("_law_is_number", none), "_law_is_number", "_law_is_number", defArgs s__law_is_number, defBody s__law_is_number, defScope s__law_is_number⟩
def d__law_written : He.FnD := ⟨("_law_written", none), "_law_written", "_law_written", defArgs s__law_written, defBody s__law_written, defScope s__law_written⟩
def d__law_told : He.FnD := ⟨("_law_told", none), "_law_told", "_law_told", defArgs s__law_told, defBody s__law_told, defScope s__law_told⟩
def d__law_right : He.FnD := ⟨("_law_right", none), "_law_right", "_law_right", defArgs s__law_right, defBody s__law_right, defScope s__law_right⟩
def d__law_bent_text : He.FnD := ⟨("_law_bent_text", none), "_law_bent_text", "_law_bent_text", defArgs s__law_bent_text, defBody s__law_bent_text, defScope s__law_bent_text⟩
def d__law_bent : He.FnD := ⟨("_law_bent", none), "_law_bent", "_law_bent", defArgs s__law_bent, defBody s__law_bent, defScope s__law_bent⟩
def d__law_long_right : He.FnD := ⟨("_law_long_right", none), "_law_long_right", "_law_long_right", defArgs s__law_long_right, defBody s__law_long_right, defScope s__law_long_right⟩
def d_law : He.FnD := ⟨("law", none), "law", "law", defArgs s_law, defBody s_law, defScope s_law⟩
def fnl : List He.FnD := [d_is_integer, d_is_run, d_are_runs, d_is_city, d_read_number, d_read_run, d_read_point, d_is_path, d_format_runs, d_format_city, d_format_drive, d_parse_city, d_parse_drive, d__law_source, d__law_draw, d__law_runs, d__law_town, d__law_number, d__law_runs_of, d__law_read, d__law_is_number, d__law_written, d__law_told, d__law_right, d__law_bent_text, d__law_bent, d__law_long_right, d_law]
def fal : List He.Fa := [.glo "is_integer", .keep "is_integer", .glo "is_run", .keep "is_run", .glo "are_runs", .keep "are_runs", .glo "is_city", .keep "is_city", .glo "read_number", .keep "read_number", .glo "read_run", .keep "read_run", .glo "read_point", .keep "read_point", .glo "is_path", .keep "is_path", .glo "format_runs", .keep "format_runs", .glo "format_city", .keep "format_city", .glo "format_drive", .keep "format_drive", .glo "parse_city", .keep "parse_city", .glo "parse_drive", .keep "parse_drive", .glo "_law_source", .keep "_law_source", .glo "_law_draw", .keep "_law_draw", .glo "_law_runs", .keep "_law_runs", .glo "_law_town", .keep "_law_town", .glo "_law_number", .keep "_law_number", .glo "_law_runs_of", .keep "_law_runs_of", .glo "_law_read", .keep "_law_read", .glo "_law_is_number", .keep "_law_is_number", .glo "_law_written", .keep "_law_written", .glo "_law_told", .keep "_law_told", .glo "_law_right", .keep "_law_right", .glo "_law_bent_text", .keep "_law_bent_text", .glo "_law_bent", .keep "_law_bent", .glo "_law_long_right", .keep "_law_long_right", .glo "law", .keep "law", .free "len", .free "abs", .free "sum", .free "min", .free "max", .free "all", .free "any", .free "sorted", .free "repr", .free "int", .free "str", .free "list", .free "tuple", .free "set", .free "isinstance", .free "range", .free "zip", .free "enumerate", .free "bool", .free "dict", .free "ValueError", .glo "CityError", .exc "CityError", .glo "InvalidCity", .exc "InvalidCity", .glo "InvalidDrive", .exc "InvalidDrive", .glo "InvalidText", .exc "InvalidText", .exm "CityError" "InvalidCity" false, .exm "CityError" "InvalidDrive" false, .exm "CityError" "InvalidText" false, .exm "InvalidCity" "InvalidCity" true, .exm "InvalidCity" "InvalidDrive" false, .exm "InvalidCity" "InvalidText" false, .exm "InvalidDrive" "InvalidCity" false, .exm "InvalidDrive" "InvalidDrive" true, .exm "InvalidDrive" "InvalidText" false, .exm "InvalidText" "InvalidCity" false, .exm "InvalidText" "InvalidDrive" false, .exm "InvalidText" "InvalidText" true]
def lo0 : List PySem.Str := ["__name__", "CityError", "InvalidCity", "InvalidDrive", "InvalidText", "EAST", "WEST", "NORTH", "SOUTH", "is_integer", "is_run", "are_runs", "is_city", "SPACE", "BAR", "COMMA", "DIGITS", "read_number", "read_run", "read_point", "is_path", "format_runs", "format_city", "format_drive", "parse_city", "parse_drive", "_law_source", "_law_draw", "_law_runs", "_law_town"]
def lo1 : List PySem.Str := ["_law_number", "_law_runs_of", "_law_read", "_law_is_number", "_law_written", "_law_told", "_law_right", "_law_bent_text", "_law_bent", "_law_long_right"]
def loose : List PySem.Str := lo0 ++ lo1
abbrev RR : PySem.W.OpenRow := PySem.W.OpenLaw.row PySem.Challenge.rw_cornercity_k42_invalid_texts
abbrev hk : PySem.W.Hook := hookC 4 fal fnl cns tbs
def ob (s : PySem.W.SharedT) : AlC := obsCG 4 fal fnl cns tbs (HandSHeadRun.getT s)
theorem ob_eq (s : PySem.W.SharedT) : ob s = hk.obs s.abs := obsCG_eq (HandSHeadRun.getT_eq s)
theorem run_f (w : World) : HandSHeadRun.RunEq RR (PySem.W.view RR.prog [43]) hk ob 20000 loose (w.withFollow "special-get-raises" false) := by
  intro os
  kernel_rfl
theorem run_t (w : World) : HandSHeadRun.RunEq RR (PySem.W.view RR.prog [43]) hk ob 20000 loose (w.withFollow "special-get-raises" true) := by
  intro os
  kernel_rfl
theorem run_top (w : World) : HandSHeadRun.RunEq RR (PySem.W.view RR.prog [43]) hk ob 20000 loose w :=
  PySem.W.byRow2 "special-get-raises" (P := fun w => HandSHeadRun.RunEq RR (PySem.W.view RR.prog [43]) hk ob 20000 loose w) run_f run_t w
open PySem PySem.W PySem.Calls PyProof.Rows in
theorem head_done (call : PySem.W.WalkO (PySem.W.view RR.prog [43]) loose (PySem.W.XL (PySem.W.view RR.prog [43]) []) hk.says RR.toRowW (HandSHeadRun.topDef RR.prog 43) [] fun f vs => PySem.call f vs) : PySem.Challenge.rw_cornercity_k42_invalid_texts.Holds := by
  w_on; o_law
  refine HandSHeadRun.head_any (r := OpenLaw.row PySem.Challenge.rw_cornercity_k42_invalid_texts) (q := view (OpenLaw.row PySem.Challenge.rw_cornercity_k42_invalid_texts).prog [43]) (H := CC.hk) (ob := CC.ob) (M := 20000) (loose := CC.loose) (d := HandSHeadRun.topDef (OpenLaw.row PySem.Challenge.rw_cornercity_k42_invalid_texts).prog 43) (kwd := []) CC.ob_eq
    (by kernel_rfl) (fun s => by kernel_rfl) CC.run_top (by kernel_rfl) (by kernel_rfl) (by kernel_rfl) (by rfl) (by first | assumption | decide +kernel) (by decide +kernel) ⟨rfl, rfl, rfl, rfl, rfl, by decide +kernel⟩ ?hw call
  case hw => w_witness2
theorem head_defs : (HandSHeadRun.topDef RR.prog 43).params.defaults = [] := by kernel_rfl
theorem head_name : (HandSHeadRun.topDef RR.prog 43).name = "law" := by kernel_rfl
end CC
namespace CC
open PySem PySem.Spec PyProof.Rows L2
section
variable {k : Nat} {v : D} {S : Sto} {Q : D → Sto → Prop} {E : Nat → List D → Sto → Prop}
@[simp ↓] theorem e_is_integer {low : Int} (hv : (tyOfD v S).isSome = true) : WR (CF (k + 1) f_is_integer [v, .int low] S) Q E = Q (.bl (isIntD v low)) S := by
  rw [cf_run (fd := fd_is_integer) rfl rfl]
  simp [fd_is_integer, bd_is_integer, startE, isi_int hv, isi_bool hv]
  cases v <;> simp [isIB, isBB, isIntD]
theorem e_is_run {a b : Str} (hv : Nice 2 v S) : WR (CF (k + 2) f_is_run [v, .tup [.str a, .str b]] S) Q E = Q (.bl (isRunD a b v)) S := by
  rw [cf_run (fd := fd_is_run) rfl rfl]
  simp [fd_is_run, bd_is_run, startE, isi_tuple hv.1]
  cases v with
  | tup ds =>
    have hn := (hv.2 ds rfl).2
    match ds, hn with
    | [], _ => simp [isTB, isRunD]
    | [x], _ => simp [isTB, isRunD_len]
    | _ :: _ :: _ :: r, _ =>
      rw [isRunD_len (by simp)]
      simp only [isTB, l_tup, optP_some, if_true, List.length_cons]
      rw [if_neg (by omega)]
    | [x, y], hn =>
      have hx := hn x (by simp)
      have hy := hn y (by simp)
      simp [isTB, isi_str hx.1]
      cases x with
      | str d =>
        simp [isSB, inSeq2, isRunD, hy.1]
        by_cases e : d = a ∨ d = b
        · have e' : (d == a || d == b) = true := by simpa using e
          simp only [e, if_true]
          rw [e']
          simp
        · have e' : (d == a || d == b) = false := by simpa using e
          simp only [e, if_false]
          rw [e']
          simp
      | _ => simp [isSB, isRunD]
  | _ => simp [isTB, isRunD]
theorem e_are_runs {a b : Str} (hv : Nice 3 v S) : WR (CF (k + 3) f_are_runs [v, .tup [.str a, .str b]] S) Q E = Q (.bl (areRunsD a b v)) S := by
  refine WR_eq fun {Q E} h => ?_
  rw [cf_run (fd := fd_are_runs) rfl rfl]
  simp [fd_are_runs, bd_are_runs, startE, isi_tuple hv.1]
  cases v with
  | tup ds =>
    obtain ⟨hl, hn⟩ := hv.2 ds rfl
    simp only [isTB, l_tup, optP_some, if_true]
    refine ite2 (fun e => ?_) (fun e => ?_)
    · have e' : ds = [] := List.length_eq_zero_iff.mp (by simpa using e)
      subst e'
      simpa [areRunsD] using h
    · refine lc_d (fun d => .bl (isRunD a b d)) hl (fun d hd => ?_) ?_
      · simp [e_is_run (hn d hd)]
      · have ne : ds.isEmpty = false := by cases ds <;> simp_all
        simp [blsOf_map]
        refine ite2 (fun e1 => ?_) (fun e1 => ?_)
        · have z : ds.all (isRunD a b) = false := by
            rw [Bool.eq_false_iff]
            intro z
            obtain ⟨d, hd, hf⟩ := e1
            rw [List.all_eq_true.mp z d hd] at hf
            cases hf
          simpa [areRunsD, ne, z] using h
        · have z : ds.all (isRunD a b) = true := by
            rw [List.all_eq_true]
            intro d hd
            cases hf : isRunD a b d with
            | true => rfl
            | false => exact absurd ⟨d, hd, hf⟩ e1
          rw [cut1]
          refine lc_m (m := ds.zip ds.tail) (enc := fun p => D.tup [p.1, p.2]) (fun p => .bl (fstS p.1 != fstS p.2)) (by simp only [List.length_zip, List.length_tail]; omega) (fun p hp => ?_) ?_
          · obtain ⟨r1, r2⟩ := zipRuns z hp
            obtain ⟨d1, c1, e1, g1⟩ := isRunD_str r1
            obtain ⟨d2, c2, e2, g2⟩ := isRunD_str r2
            simp [e1, e2, fstS, bne]
          · simp [blsOf_map]
            have ea : areRunsD a b (.tup ds) = ((ds.zip ds.tail).map fun p => fstS p.1 != fstS p.2).all id := by
              simp only [areRunsD, ne, z, List.all_map]
              rfl
            rw [ea] at h
            simpa using h
  | _ => simpa [isTB, areRunsD] using h
theorem e_is_city (hv : Nice 4 v S) : WR (CF (k + 4) f_is_city [v] S) Q E = Q (.bl (isCityD v)) S := by
  refine WR_eq fun {Q E} h => ?_
  rw [cf_run (fd := fd_is_city) rfl rfl]
  simp [fd_is_city, bd_is_city, startE, G, gvs, isi_tuple hv.1]
  cases v with
  | tup ds =>
    obtain ⟨hl, hn⟩ := hv.2 ds rfl
    simp only [isTB, l_tup, optP_some, if_true]
    refine ite2 (fun e => ?_) (fun e => ?_)
    · obtain ⟨x, y, rfl⟩ := two_of (by simpa using e)
      simp [e_are_runs (hn x (by simp)), e_are_runs (hn y (by simp))]
      refine ite2 (fun e1 => ?_) (fun e1 => ?_)
      · simpa [isCityD, e1] using h
      · have e1' : areRunsD "E" "W" x = false := by simpa using e1
        simpa [isCityD, e1'] using h
    · rw [isCityD_len (by omega)] at h
      simpa using h
  | _ => simpa [isTB, isCityD] using h
theorem w_draw {n : Nat} {b : SO} {c j : Int} (h : S[n]? = some b) (hb : BagOk b c) (hc : c < 2 ^ 60) (j0 : 0 < j) (j1 : j < 2 ^ 200) (hQ : ∀ r b', 0 ≤ r → r < j → BagOk b' (c + 1) → Q (.int r) (S.set n b')) : WR (CF (k + 1) f__law_draw [.loc n, .int j] S) Q E := by
  obtain ⟨a, m, t, rfl, h2, h3, h4, h5, h6⟩ := hb
  rw [cf_run (fd := fd__law_draw) rfl rfl]
  simp [fd__law_draw, bd__law_draw, startE, lst_at h]
  refine ite2 (fun ea => ?_) (fun ea => ?_)
  · refine ⟨j0, divOk_of j0 j1 (by omega), ?_⟩
    rw [setIx_at h (j := 0) rfl]
    simp
    exact hQ _ _ (Int.emod_nonneg _ (by omega)) (Int.emod_lt_of_pos _ j0) ⟨_, m, t, rfl, Int.ediv_nonneg h2 (by omega), h3, h4, h5, by omega⟩
  · rw [setIx_at h (j := 2) rfl]
    simp [lst_at (set_get h)]
    have t1 : t + 1 < 2 ^ 61 := by omega
    have b1 : 0 ≤ m + 179424673 * (t + 1) := by omega
    have b2 : m + 179424673 * (t + 1) < 2 ^ 200 := by
      have : (179424673 * (t + 1) : Int) < 2 ^ 100 := by omega
      omega
    have c0 : 0 ≤ (m + 179424673 * (t + 1)) ^ 3 % 100000000000000000000000000000000000000037 := Int.emod_nonneg _ (by decide)
    have c1 : (m + 179424673 * (t + 1)) ^ 3 % 100000000000000000000000000000000000000037 < 100000000000000000000000000000000000000037 := Int.emod_lt_of_pos _ (by decide)
    refine ⟨mulOk_of (k := 40) (l := 61) (by decide) (by decide) (by decide) (by omega) t1 (by decide) (by decide), powOk_of (k := 200) b1 b2 (by decide) (by decide) (by decide) (by decide), by decide +kernel,
      mulOk_of (k := 40) (l := 61) (by decide) (by decide) (by decide) (by omega) t1 (by decide) (by decide), ?_⟩
    generalize (m + 179424673 * (t + 1)) ^ 3 % 100000000000000000000000000000000000000037 = z at c0 c1 ⊢
    refine ⟨powOk_of (k := 200) (by omega) ?_ (by decide) (by decide) (by decide) (by decide), by decide +kernel, divOk_of (k := 30) (by decide) (by decide) (by decide), j0, ?_⟩
    · have : (22801763489 * (t + 1) : Int) < 2 ^ 110 := by omega
      omega
    · exact hQ _ _ (Int.emod_nonneg _ (by omega)) (Int.emod_lt_of_pos _ j0) ⟨a, m, t + 1, rfl, h2, h3, h4, by omega, by omega⟩
end
end CC
namespace CC
open PySem PySem.Spec PyProof.Rows L2 TL
def mkS (l : List Nat) : Str := ⟨l.toArray⟩
theorem tl_mkS (l : List Nat) : tl (mkS l) = l := rfl
theorem mkS_tl (x : Str) : mkS (tl x) = x := mk_tl x
theorem mkS_len (l : List Nat) : (mkS l).length = l.length := by
  show l.toArray.size = _
  rw [List.size_toArray]
theorem mkS_app (a b : List Nat) : mkS a ++ mkS b = mkS (a ++ b) := ext_tl (by rw [tl_append]; rfl)
theorem mkS_inj {a b : List Nat} (h : mkS a = mkS b) : a = b := by
  have := congrArg tl h
  exact this
def numS (n : Nat) : Str := mkS (numL n)
theorem numS_eq (n : Nat) : Str.ofString (toString ((n : Nat) : Int)) = numS n := ext_tl (tl_num n)
theorem numS_of {c : Int} (h : 0 ≤ c) : Str.ofString (toString c) = numS c.toNat := by
  obtain ⟨n, rfl⟩ := Int.eq_ofNat_of_zero_le h
  exact numS_eq n
theorem dig_in : ∀ c : Nat, 48 ≤ c → c ≤ 57 → (!(Builtin.Str.occurrences ("0123456789" : Str) ⟨#[c]⟩ 0 ("0123456789" : Str).length 1).isEmpty) = true := by
  intro c h1 h2
  obtain ⟨d, rfl⟩ : ∃ d, c = 48 + d := ⟨c - 48, by omega⟩
  have hd : d < 10 := by omega
  have key : ∀ d : Fin 10, (!(Builtin.Str.occurrences ("0123456789" : Str) ⟨#[48 + d.val]⟩ 0 ("0123456789" : Str).length 1).isEmpty) = true := by decide +kernel
  exact key ⟨d, hd⟩
section
variable {k : Nat} {v : D} {S : Sto} {Q : D → Sto → Prop} {E : Nat → List D → Sto → Prop}
theorem in_digits {c : Nat} (h : 48 ≤ c ∧ c ≤ 57) : cmpD .In (.str ⟨#[c]⟩) (.str "0123456789") S = some true := by
  show some (!(Builtin.Str.occurrences ("0123456789" : Str) ⟨#[c]⟩ 0 ("0123456789" : Str).length 1).isEmpty) = some true
  rw [dig_in c h.1 h.2]
end
end CC
namespace CC
open PySem PySem.Spec PyProof.Rows L2 TL
section
variable {k : Nat} {v : D} {S : Sto} {Q : D → Sto → Prop} {E : Nat → List D → Sto → Prop}
@[simp] theorem asStr_str {x : Str} : asStrF [.str x] S = .ok (.str x) S := rfl
theorem strsD_map : ∀ ys : List Str, strsD (ys.map D.str) = some ys
  | [] => rfl
  | y :: ys => by
    show (strsD (ys.map D.str)).map (y :: ·) = _
    rw [strsD_map ys]
    rfl
theorem e_joiF {x : Str} {ys : List Str} (h : (ys.map (·.length)).sum + ys.length * x.length ≤ 16777216) : WR (joiF [.str x, .fl (ys.map D.str)] S) Q E = Q (.str (Txt.join x ys)) S := by
  show WR (match (lstD S (.fl (ys.map D.str))).bind strsD with
    | some ys => if (ys.map (·.length)).sum + ys.length * x.length ≤ 16777216 then .ok (.str (Txt.join x ys)) S else .bad
    | none => .bad) Q E = _
  have e : (lstD S (.fl (ys.map D.str))).bind strsD = some ys := strsD_map ys
  rw [e]
  show WR (if (ys.map (·.length)).sum + ys.length * x.length ≤ 16777216 then .ok (.str (Txt.join x ys)) S else .bad) Q E = _
  rw [if_pos h]
  rfl
theorem e_splF {x y : Str} (hy : (y.length == 0) = false) (hx : x.length + 2 ≤ sizeLine) : WR (splF [.str x, .str y] S) Q E = Q (.loc S.length) (S ++ [.lst ((Txt.split x y).map D.str)]) := by
  show WR (if (!(y.length == 0) && decide (x.length + 2 ≤ sizeLine)) = true then mk (.lst ((Txt.split x y).map D.str)) S else .bad) Q E = _
  rw [hy, decide_eq_true hx]
  rfl
theorem cut_tail {c : Nat} {l : List Nat} : L2.cutS (mkS (c :: l)) (some 1) none = mkS l := by
  refine ext_tl ?_
  show ((mkS (c :: l)).cps.toList.drop (HT.sIx (mkS (c :: l)).length 0 (some 1))).take (HT.sIx (mkS (c :: l)).length (mkS (c :: l)).length none - HT.sIx (mkS (c :: l)).length 0 (some 1)) = l
  have e1 : HT.sIx (mkS (c :: l)).length 0 (some 1) = 1 := by
    rw [mkS_len, show (some (1 : Int)) = some ((1 : Nat) : Int) from rfl, HT.sIx_nat, List.length_cons]
    omega
  rw [e1, HT.sIx_none, mkS_len, List.length_cons]
  show ((c :: l).drop 1).take (l.length + 1 - 1) = l
  rw [List.drop_succ_cons, List.drop_zero, Nat.add_sub_cancel, List.take_length]
def wordR (c : Nat) (n : Nat) : Str := mkS (c :: numL n)
structure SmR (p : Str × Int) : Prop where
  let_ : ∃ c, p.1 = mkS [c] ∧ 65 ≤ c ∧ c ≤ 90
  lo : 0 ≤ p.2
  hi : p.2 < 10 ^ 100
theorem SmR.nl {p : Str × Int} (h : SmR p) : (numL p.2.toNat).length ≤ 100 := numL_len (by decide) (by have := h.lo; have := h.hi; omega)
def wR (p : Str × Int) : Str := p.1 ++ numS p.2.toNat
theorem SmR.wr {p : Str × Int} (h : SmR p) : ∃ c, p.1 = mkS [c] ∧ 65 ≤ c ∧ c ≤ 90 ∧ wR p = wordR c p.2.toNat := by
  obtain ⟨c, e, h1, h2⟩ := h.let_
  exact ⟨c, e, h1, h2, by unfold wR wordR; rw [e]; unfold numS; rw [mkS_app]; rfl⟩
theorem wR_len {p : Str × Int} (h : SmR p) : (wR p).length ≤ 101 := by
  obtain ⟨c, _, _, _, e⟩ := h.wr
  have := h.nl
  rw [e]
  unfold wordR
  rw [mkS_len, List.length_cons]
  omega
theorem sum_le {α : Type} {f : α → Nat} {B : Nat} : ∀ {l : List α}, (∀ x ∈ l, f x ≤ B) → (l.map f).sum ≤ B * l.length
  | [], _ => by simp
  | x :: l, h => by
    have h1 := h x List.mem_cons_self
    have h2 := sum_le fun y hy => h y (List.mem_cons_of_mem _ hy)
    rw [List.map_cons, List.sum_cons, List.length_cons, Nat.mul_add, Nat.mul_one]
    omega
def runsT (l : Runs) : Str := Txt.join " " (l.map wR)
theorem log_ok {c : Int} (h0 : 0 ≤ c) (h1 : c < 10 ^ 100) : decide (c.natAbs.log2 < 1900) = true := by
  rw [decide_eq_true_iff]
  by_cases z : c.natAbs = 0
  · rw [z]; decide
  · rw [Nat.log2_lt z]
    have : (10 : Int) ^ 100 < 2 ^ 1900 := by decide +kernel
    have e : (c.natAbs : Int) = c := Int.natAbs_of_nonneg h0
    have : (c.natAbs : Int) < ((2 ^ 1900 : Nat) : Int) := by rw [e]; push_cast; omega
    omega
theorem w_fruns {l : Runs} (hl : l.length ≤ 1000) (hs : ∀ p ∈ l, SmR p) (hQ : Q (.str (runsT l)) S) : WR (CF (k + 1) f_format_runs [encR l] S) Q E := by
  have jo : ((l.map wR).map (·.length)).sum + (l.map wR).length * (" " : Str).length ≤ 16777216 := by
    have h1 : ((l.map wR).map (·.length)).sum ≤ 101 * l.length := by
      rw [List.map_map]
      exact sum_le fun p hp => wR_len (hs p hp)
    have h2 : (" " : Str).length = 1 := by with_unfolding_all rfl
    rw [h2, List.length_map]
    omega
  rw [cf_run (fd := fd_format_runs) rfl rfl]
  show Ws (run W (CF k) G bd_format_runs [some (encR l), none, none] S) _
  unfold bd_format_runs
  have so : ∀ S, srcOf (encR l) S = some (.ds (l.map encP)) := fun _ => rfl
  have hG : G 4 = some (.str " ") := rfl
  simp [so, hG]
  refine lc_m (m := l) (enc := encP) (fun p => .str (wR p)) (by unfold sizeLine; omega) (fun p hp => ?_) ?_
  · have e : Str.ofString p.2.repr = numS p.2.toNat := numS_of (hs p hp).lo
    have h1 := wR_len (hs p hp)
    have h2 : (wR p).length = p.1.length + (numS p.2.toNat).length := Str.length_append _ _
    simp [encP]
    rw [e]
    exact ⟨by simpa using log_ok (hs p hp).lo (hs p hp).hi, by rw [← h2]; unfold sizeLine; omega, rfl⟩
  · have e : l.map (fun p => D.str (wR p)) = (l.map wR).map D.str := by rw [List.map_map]; rfl
    rw [e, fr_new (ltL_map' fun _ => by simp), e_joiF jo]
    simp
    exact hQ
theorem bar_tl : tl (" | " : Str) = [32, 124, 32] := by with_unfolding_all rfl
theorem spc_tl : tl (" " : Str) = [32] := by with_unfolding_all rfl
theorem wR_tl {p : Str × Int} (h : SmR p) : ∃ c, 65 ≤ c ∧ c ≤ 90 ∧ tl (wR p) = c :: numL p.2.toNat := by
  obtain ⟨c, _, h1, h2, e⟩ := h.wr
  exact ⟨c, h1, h2, by rw [e]; rfl⟩
theorem joinL_mem {s : Nat} {S : List Nat} : ∀ {ps : List (List Nat)}, s ∈ joinL S ps → s ∈ S ∨ ∃ p ∈ ps, s ∈ p
  | [], h => by cases h
  | [p], h => .inr ⟨p, List.mem_cons_self, h⟩
  | p :: q :: r, h => by
    have h : s ∈ p ++ (S ++ joinL S (q :: r)) := h
    rcases List.mem_append.mp h with h | h
    · exact .inr ⟨p, List.mem_cons_self, h⟩
    · rcases List.mem_append.mp h with h | h
      · exact .inl h
      · rcases joinL_mem h with h | ⟨t, ht, h⟩
        · exact .inl h
        · exact .inr ⟨t, List.mem_cons_of_mem _ ht, h⟩
theorem joinL_len {S : List Nat} : ∀ {ps : List (List Nat)}, (joinL S ps).length ≤ (ps.map List.length).sum + ps.length * S.length
  | [] => by simp [joinL]
  | [p] => by simp [joinL]
  | p :: q :: r => by
    have ih := joinL_len (S := S) (ps := q :: r)
    show (p ++ (S ++ joinL S (q :: r))).length ≤ _
    rw [List.length_append, List.length_append, List.map_cons, List.sum_cons, List.length_cons, Nat.add_mul, Nat.one_mul]
    omega
theorem runsT_len {l : Runs} (hs : ∀ p ∈ l, SmR p) : (runsT l).length ≤ 102 * l.length := by
  rw [len_tl]
  unfold runsT
  rw [join_eq, tl_join, spc_tl]
  refine Nat.le_trans joinL_len ?_
  rw [List.map_map, List.length_map, List.length_map, List.map_map]
  have : (l.map ((List.length ∘ tl) ∘ wR)).sum ≤ 101 * l.length := sum_le fun p hp => by
    show (tl (wR p)).length ≤ 101
    rw [← len_tl]
    exact wR_len (hs p hp)
  have e : [32].length = 1 := rfl
  rw [e]
  omega
def cityT (a b : Runs) : Str := runsT a ++ " | " ++ runsT b
end
end CC
namespace CC
open PySem PySem.Spec PyProof.Rows L2 TL
section
variable {k : Nat} {v : D} {S : Sto} {Q : D → Sto → Prop} {E : Nat → List D → Sto → Prop}
theorem fr_ext {J : List SO} {m : Nat} {ds : List D} (hm : m = (S ++ J).length) (q : ltL S.length ds = true) : WR (trim S (frzD (.loc m) ((S ++ J) ++ [.lst ds]))) Q E = Q (.fl ds) S := by
  have g : ((S ++ J) ++ [SO.lst ds])[m]? = some (.lst ds) := by rw [hm]; simp
  rw [fr_at g, q]
  have e : ((S ++ J) ++ [SO.lst ds]).set m (.frz ds) = S ++ (J ++ [.frz ds]) := by
    rw [hm, List.set_append_right _ _ (Nat.le_refl _)]
    simp
  rw [e, cut_app]
theorem w_fcity {a b : Runs} (t : Town a b) (la : a.length ≤ 1000) (lb : b.length ≤ 1000) (ha : ∀ p ∈ a, SmR p) (hb : ∀ p ∈ b, SmR p) (hQ : Q (.str (cityT a b)) S) : WR (CF (k + 5) f_format_city [encC a b] S) Q E := by
  have ic : ∀ Q E (S : Sto), Q (.bl true) S → WR (CF (k + 4) f_is_city [encC a b] S) Q E := fun Q E S h => by
    rw [e_is_city (k := k) t.nice, t.city]
    exact h
  have fa : ∀ Q E (S : Sto), Q (.str (runsT a)) S → WR (CF (k + 4) f_format_runs [encR a] S) Q E := fun Q E S h => w_fruns (k := k + 3) la ha h
  have fb : ∀ Q E (S : Sto), Q (.str (runsT b)) S → WR (CF (k + 4) f_format_runs [encR b] S) Q E := fun Q E S h => w_fruns (k := k + 3) lb hb h
  have i0 : ∀ S, ixD (encC a b) (.int 0) S = some (encR a) := fun _ => rfl
  have i1 : ∀ S, ixD (encC a b) (.int 1) S = some (encR b) := fun _ => rfl
  have hG : G 5 = some (.str " | ") := rfl
  have l1 := runsT_len ha
  have l2 := runsT_len hb
  have l3 : (runsT a ++ " | ").length = (runsT a).length + (" | " : Str).length := Str.length_append _ _
  have l4 : (" | " : Str).length = 3 := by with_unfolding_all rfl
  rw [cf_run (fd := fd_format_city) rfl rfl]
  show Ws (run W (CF (k + 4)) G bd_format_city [some (encC a b)] S) _
  unfold bd_format_city
  generalize CF (k + 4) = C at *
  generalize encC a b = ec at *
  refine s_seq (fun ρ S1 => S1 = S ∧ ρ = [some ec]) ?_ ?_
  · simp
    refine ic _ _ _ ?_
    simp
  rintro ρ S1 ⟨rfl, rfl⟩
  simp [i0, i1]
  refine fa _ _ _ ?_
  simp [hG]
  refine ⟨by unfold sizeLine; omega, ?_⟩
  refine fb _ _ _ ?_
  simp
  refine ⟨by unfold sizeLine; omega, ?_⟩
  exact hQ
end
end CC
namespace CC
open PySem PySem.Spec PyProof.Rows L2 TL
section
variable {k : Nat} {v : D} {S : Sto} {Q : D → Sto → Prop} {E : Nat → List D → Sto → Prop}
structure Sp (p : Int × Int) : Prop where
  x0 : 0 ≤ p.1
  x1 : p.1 < 10 ^ 100
  y0 : 0 ≤ p.2
  y1 : p.2 < 10 ^ 100
def wP (p : Int × Int) : Str := numS p.1.toNat ++ "," ++ numS p.2.toNat
theorem com_tl : tl ("," : Str) = [44] := by with_unfolding_all rfl
theorem com_len : ("," : Str).length = 1 := by with_unfolding_all rfl
theorem numS_len {n : Nat} : (numS n).length = (numL n).length := mkS_len _
theorem nl100 {c : Int} (h0 : 0 ≤ c) (h1 : c < 10 ^ 100) : (numL c.toNat).length ≤ 100 := numL_len (by decide) (by omega)
theorem wP_len {p : Int × Int} (h : Sp p) : (wP p).length ≤ 201 := by
  have h1 := nl100 h.x0 h.x1
  have h2 := nl100 h.y0 h.y1
  unfold wP
  rw [Str.length_append, Str.length_append, com_len, numS_len, numS_len]
  omega
theorem wP_tl {p : Int × Int} : tl (wP p) = numL p.1.toNat ++ (44 :: numL p.2.toNat) := by
  unfold wP
  rw [tl_append, tl_append, com_tl, List.append_assoc]
  rfl
def driveT (l : List (Int × Int)) : Str := Txt.join " " (l.map wP)
theorem w_ispath {l : List (Int × Int)} (hn : l ≠ []) (hl : l.length ≤ 20000) (hs : ∀ p ∈ l, Sp p) (hQ : Q (.bl true) S) : WR (CF (k + 2) f_is_path [.fl (l.map encPt)] S) Q E := by
  have ii : ∀ (c : Int), 0 ≤ c → ∀ Q E (S : Sto), Q (.bl true) S → WR (CF (k + 1) f_is_integer [.int c, .int 0] S) Q E := fun c h0 Q E S h => by
    rw [e_is_integer (k := k) rfl]
    have : isIntD (.int c) 0 = true := by simpa [isIntD] using h0
    rw [this]
    exact h
  have hi : ∀ S, isinst (.fl (l.map encPt)) (.ty "list") S = some true := fun S => isi_list rfl
  have ne : ∀ S, cmpD .Eq (.fl (l.map encPt)) (.fl []) S = some false := fun S => by
    rw [eq_nil (S := S) (ds := l.map encPt) rfl]
    cases l with
    | nil => exact absurd rfl hn
    | cons p l => rfl
  rw [cf_run (fd := fd_is_path) rfl rfl]
  show Ws (run W (CF (k + 1)) G bd_is_path [some (.fl (l.map encPt)), none, none] S) _
  unfold bd_is_path
  generalize CF (k + 1) = C at *
  refine s_seq (fun ρ S1 => S1 = S ∧ ρ = [some (.fl (l.map encPt)), none, none]) ?_ ?_
  · simp [hi, ne]
  rintro ρ S1 ⟨rfl, rfl⟩
  refine s_seq (fun ρ S2 => S2 = S1 ∧ ∃ u, ρ = [some (.fl (l.map encPt)), u, none]) ?_ ?_
  · obtain ⟨I, hI⟩ : ∃ I : List (Int × Int) → Env → Sto → Prop, ∀ rem ρ S2, I rem ρ S2 ↔ S2 = S1 ∧ (∀ p ∈ rem, Sp p) ∧ ∃ u, ρ = [some (.fl (l.map encPt)), u, none] := ⟨_, fun _ _ _ => Iff.rfl⟩
    simp
    refine ws_for_map (m := l) (f := encPt) I ?_ ?_ ((hI _ _ _).mpr ⟨rfl, hs, _, rfl⟩)
    · intro p rem ρ S2 hz
      obtain ⟨rfl, hr, u, rfl⟩ := (hI _ _ _).mp hz
      have hp := hr p List.mem_cons_self
      have hI2 : ∀ u, I rem [some (.fl (l.map encPt)), u, none] S2 := fun u => (hI _ _ _).mpr ⟨rfl, fun q hq => hr q (List.mem_cons_of_mem _ hq), _, rfl⟩
      have ht : ∀ S, isinst (D.tup [D.int p.1, D.int p.2]) (.ty "tuple") S = some true := fun S => by with_unfolding_all rfl
      simp [encPt, ht]
      refine lc_m (m := [p.1, p.2]) (enc := D.int) (fun _ => .bl true) (by simp [sizeLine]) (fun c hc => ?_) ?_
      · have hc0 : 0 ≤ c := by
          simp only [List.mem_cons, List.not_mem_nil, or_false] at hc
          rcases hc with rfl | rfl
          · exact hp.x0
          · exact hp.y0
        simp
        refine ii c hc0 _ _ _ ?_
        simp
      · rw [fr_new (ltL_map' fun _ => by simp)]
        have e1 : (lstD S2 (.fl ([p.1, p.2].map fun _ => D.bl true))).bind blsOf = some [true, true] := rfl
        rw [e1]
        simp
        exact hI2 _
    · intro ρ S2 hz
      obtain ⟨rfl, hr, u, rfl⟩ := (hI _ _ _).mp hz
      exact ⟨rfl, u, rfl⟩
  rintro ρ S2 ⟨rfl, u, rfl⟩
  simp
  exact hQ
theorem driveT_len {l : List (Int × Int)} (hs : ∀ p ∈ l, Sp p) : (driveT l).length ≤ 202 * l.length := by
  rw [len_tl]
  unfold driveT
  rw [join_eq, tl_join, spc_tl]
  refine Nat.le_trans joinL_len ?_
  rw [List.map_map, List.length_map, List.length_map, List.map_map]
  have : (l.map ((List.length ∘ tl) ∘ wP)).sum ≤ 201 * l.length := sum_le fun p hp => by
    show (tl (wP p)).length ≤ 201
    rw [← len_tl]
    exact wP_len (hs p hp)
  have e : [32].length = 1 := rfl
  rw [e]
  omega
theorem w_fdrive {l : List (Int × Int)} (hn : l ≠ []) (hl : l.length ≤ 20000) (hs : ∀ p ∈ l, Sp p) (hQ : Q (.str (driveT l)) S) : WR (CF (k + 3) f_format_drive [.fl (l.map encPt)] S) Q E := by
  have ip : ∀ Q E (S : Sto), Q (.bl true) S → WR (CF (k + 2) f_is_path [.fl (l.map encPt)] S) Q E := fun Q E S h => w_ispath (k := k) hn hl hs h
  have hG : G 4 = some (.str " ") := rfl
  have hG2 : G 6 = some (.str ",") := rfl
  have jo : ((l.map wP).map (·.length)).sum + (l.map wP).length * (" " : Str).length ≤ 16777216 := by
    have h1 : ((l.map wP).map (·.length)).sum ≤ 201 * l.length := by
      rw [List.map_map]
      exact sum_le fun p hp => wP_len (hs p hp)
    have h2 : (" " : Str).length = 1 := by with_unfolding_all rfl
    rw [h2, List.length_map]
    omega
  rw [cf_run (fd := fd_format_drive) rfl rfl]
  show Ws (run W (CF (k + 2)) G bd_format_drive [some (.fl (l.map encPt)), none, none] S) _
  unfold bd_format_drive
  generalize CF (k + 2) = C at *
  refine s_seq (fun ρ S1 => S1 = S ∧ ρ = [some (.fl (l.map encPt)), none, none]) ?_ ?_
  · simp
    refine ip _ _ _ ?_
    simp
  rintro ρ S1 ⟨rfl, rfl⟩
  simp [hG]
  refine lc_m (m := l) (enc := encPt) (fun p => .str (wP p)) (by unfold sizeLine; omega) (fun p hp => ?_) ?_
  · have h := hs p hp
    have e1 : Str.ofString p.1.repr = numS p.1.toNat := numS_of h.x0
    have e2 : Str.ofString p.2.repr = numS p.2.toNat := numS_of h.y0
    have h1 := nl100 h.x0 h.x1
    have h2 := nl100 h.y0 h.y1
    have h3 : (numS p.1.toNat ++ ",").length = (numS p.1.toNat).length + (",": Str).length := Str.length_append _ _
    simp [encPt, hG2]
    rw [e1, e2]
    refine ⟨by simpa using log_ok h.x0 h.x1, by rw [numS_len, com_len]; unfold sizeLine; omega, by simpa using log_ok h.y0 h.y1, ?_, rfl⟩
    rw [h3, numS_len, com_len, numS_len]
    unfold sizeLine
    omega
  · have e : l.map (fun p => D.str (wP p)) = (l.map wP).map D.str := by rw [List.map_map]; rfl
    rw [e, fr_new (ltL_map' fun _ => by simp), e_joiF jo]
    simp
    exact hQ
end
end CC
namespace CC
open PySem PySem.Spec PyProof.Rows L2 TL
def isDg (c : Nat) : Bool := decide (48 ≤ c) && decide (c ≤ 57)
def rdN (l : List Nat) : Option Nat := if l = [] ∨ ¬ l.all isDg = true then none else if l.head? = some 48 ∧ l ≠ [48] then none else some (NumText.digitsVal l)
def encON : Option Nat → D
  | none => .non
  | some n => .int (n : Nat)
section
variable {k : Nat} {v : D} {S : Sto} {Q : D → Sto → Prop} {E : Nat → List D → Sto → Prop}
theorem in_dg {c : Nat} : cmpD .In (.str ⟨#[c]⟩) (.str "0123456789") S = some (isDg c) := by
  by_cases h : 48 ≤ c ∧ c ≤ 57
  · rw [in_digits h]
    unfold isDg
    rw [decide_eq_true h.1, decide_eq_true h.2]
    rfl
  · show some (!(Builtin.Str.occurrences ("0123456789" : Str) ⟨#[c]⟩ 0 ("0123456789" : Str).length 1).isEmpty) = _
    have e : isDg c = false := by
      unfold isDg
      rw [Bool.and_eq_false_iff, decide_eq_false_iff_not, decide_eq_false_iff_not]
      omega
    rw [e]
    congr 1
    have h2 : ¬ c ∈ ("0123456789" : Str).cps.toList := fun hc => by
      have : ("0123456789" : Str).cps.toList = [48, 49, 50, 51, 52, 53, 54, 55, 56, 57] := by with_unfolding_all rfl
      rw [this] at hc
      simp only [List.mem_cons, List.not_mem_nil, or_false] at hc
      omega
    have h3 := PySem.StrLaws.found_one ("0123456789" : Str) c
    rw [decide_eq_false h2] at h3
    first | exact h3 | exact h3.symm
theorem w_number_any {x : Str} (hl : x.length ≤ 640) (hQ : Q (encON (rdN (tl x))) S) : WR (CF (k + 1) f_read_number [.str x] S) Q E := by
  obtain ⟨l, rfl⟩ : ∃ l, x = mkS l := ⟨tl x, (mkS_tl x).symm⟩
  rw [tl_mkS] at hQ
  rw [mkS_len] at hl
  have lz : l.length ≤ sizeLine := Nat.le_trans hl (by decide)
  have e0 : ∀ S, cmpD .Eq (.str (mkS l)) (.str "") S = some (decide (l = [])) := fun S => by
    show some (mkS l == "") = _
    congr 1
    by_cases h : l = []
    · subst h; rfl
    · rw [decide_eq_false h, beq_eq_false_iff_ne]
      intro e
      exact h (mkS_inj (e.trans rfl))
  have blsA : ∀ l : List Nat, blsOf (l.map fun c => D.bl (isDg c)) = some (l.map isDg) := fun l => by
    induction l with
    | nil => rfl
    | cons c l ih =>
      show (blsOf (l.map fun c => D.bl (isDg c))).map (isDg c :: ·) = _
      rw [ih]
      rfl
  rw [cf_run (fd := fd_read_number) rfl rfl]
  show Ws (run W (CF k) G bd_read_number [some (.str (mkS l)), none] S) _
  unfold bd_read_number
  by_cases h1 : l = []
  · subst h1
    have e1 : rdN [] = none := rfl
    rw [e1] at hQ
    simp [e0]
    exact hQ
  · refine s_seq (fun ρ S1 => S1 = S ∧ ρ = [some (.str (mkS l)), none] ∧ l.all isDg = true) ?_ ?_
    · simp [e0, h1]
      show WR (lcl (.ds (l.map fun c => D.str ⟨#[c]⟩)) _ _ _ _ _ _ _ _) _ _
      refine lc_m (m := l) (enc := fun c => D.str ⟨#[c]⟩) (fun c => .bl (isDg c)) lz (fun c hc => ?_) ?_
      · simp [G, gvs, in_dg]
      · rw [fr_new (ltL_map' fun _ => by simp)]
        have e2 : (lstD S (.fl (l.map fun c => D.bl (isDg c)))).bind blsOf = some (l.map isDg) := blsA l
        rw [e2]
        by_cases h2 : l.all isDg = true
        · have : false ∉ l.map isDg := fun h => by
            obtain ⟨c, hc, e⟩ := List.mem_map.mp h
            rw [List.all_eq_true.mp h2 c hc] at e
            cases e
          simp [this]
          simpa using h2
        · have e3 : rdN l = none := by unfold rdN; rw [if_pos (.inr h2)]
          rw [e3] at hQ
          have : false ∈ l.map isDg := by
            rw [Bool.not_eq_true, List.all_eq_false] at h2
            obtain ⟨c, hc, h⟩ := h2
            exact List.mem_map.mpr ⟨c, hc, by simpa using h⟩
          simp [this]
          exact hQ
    rintro ρ S1 ⟨rfl, rfl, h2⟩
    have ad : NumText.AllDigits l := fun c hc => by
      have := List.all_eq_true.mp h2 c hc
      unfold isDg at this
      rw [Bool.and_eq_true, decide_eq_true_iff, decide_eq_true_iff] at this
      exact this
    obtain ⟨c0, r, rfl⟩ : ∃ c r, l = c :: r := by
      cases l with
      | nil => exact absurd rfl h1
      | cons c r => exact ⟨c, r, rfl⟩
    have iq : ∀ Q E, WR (intF [.str (mkS (c0 :: r))] S1) Q E = Q (.int (NumText.digitsVal (c0 :: r) : Nat)) S1 := fun Q E => by
      have hi : PySem.intText? (mkS (c0 :: r)) = some ((NumText.digitsVal (c0 :: r) : Nat) : Int) := intText_digits (x := mkS (c0 :: r)) ad (by simp [mkS]) (by rw [mkS_len]; omega)
      show WR (match PySem.intText? (mkS (c0 :: r)) with
        | some n' => if (mkS (c0 :: r)).length ≤ 640 then .ok (.int n') S1 else .bad
        | none => .bad) Q E = _
      rw [hi]
      show WR (if (mkS (c0 :: r)).length ≤ 640 then .ok (.int ((NumText.digitsVal (c0 :: r) : Nat) : Int)) S1 else .bad) Q E = _
      rw [if_pos (by rw [mkS_len]; exact hl)]
      rfl
    have ix : ∀ S, ixD (.str (mkS (c0 :: r))) (.int 0) S = some (.str ⟨#[c0]⟩) := fun S => by
      show (if (mkS (c0 :: r)).length ≤ sizeLine then (atI (c0 :: r) 0).map fun c => D.str ⟨#[c]⟩ else none) = _
      have ha : atI (c0 :: r) ((0 : Nat) : Int) = some c0 := atI_nat rfl
      rw [if_pos (by rw [mkS_len]; exact lz), show (0 : Int) = ((0 : Nat) : Int) from rfl, ha]
      rfl
    have n1 : ∀ S, cmpD .NotEq (.str ⟨#[c0]⟩) (.str "0") S = some (decide (c0 ≠ 48)) := fun S => by
      show some (!((⟨#[c0]⟩ : Str) == "0")) = _
      congr 1
      by_cases h : c0 = 48
      · subst h; rfl
      · rw [decide_eq_true h, Bool.not_eq_true', beq_eq_false_iff_ne]
        intro z
        have := congrArg TL.tl z
        have t0 : TL.tl ("0" : Str) = [48] := by with_unfolding_all rfl
        rw [t0] at this
        injection this with h2 _
        exact h h2
    have n2 : ∀ S, cmpD .Eq (.str (mkS (c0 :: r))) (.str "0") S = some (decide (c0 :: r = [48])) := fun S => by
      show some (mkS (c0 :: r) == "0") = _
      congr 1
      have e0 : ("0" : Str) = mkS [48] := by with_unfolding_all rfl
      rw [e0]
      by_cases h : c0 :: r = [48]
      · rw [h]; rfl
      · rw [decide_eq_false h, beq_eq_false_iff_ne]
        exact fun z => h (mkS_inj z)
    have e4 : rdN (c0 :: r) = if c0 = 48 ∧ c0 :: r ≠ [48] then none else some (NumText.digitsVal (c0 :: r)) := by
      unfold rdN
      rw [if_neg (by simp [h2])]
      simp
    rw [e4] at hQ
    by_cases h3 : c0 = 48
    · subst h3
      by_cases h4 : (48 :: r : List Nat) = [48]
      · rw [if_neg (fun z => z.2 h4)] at hQ
        obtain ⟨V, hV⟩ : ∃ V, V = D.str (mkS (48 :: r)) := ⟨_, rfl⟩
        have n3 : ∀ S, cmpD .Eq V (.str "0") S = some true := fun S => by rw [hV, n2, decide_eq_true h4]
        rw [← hV] at ix iq ⊢
        simp [ix, n1, n3, iq]
        exact hQ
      · rw [if_pos ⟨rfl, h4⟩] at hQ
        obtain ⟨V, hV⟩ : ∃ V, V = D.str (mkS (48 :: r)) := ⟨_, rfl⟩
        have n3 : ∀ S, cmpD .Eq V (.str "0") S = some false := fun S => by rw [hV, n2, decide_eq_false h4]
        rw [← hV] at ix ⊢
        simp [ix, n1, n3]
        exact hQ
    · rw [if_neg (fun z => h3 z.1)] at hQ
      simp [ix, n1, h3, iq]
      exact hQ
end
end CC
namespace CC
open PySem PySem.Spec PyProof.Rows L2 TL
def rdR : List Nat → Option (Nat × Nat)
  | [] => none
  | c :: l => (rdN l).map fun n => (c, n)
def encOR : Option (Nat × Nat) → D
  | none => .non
  | some (c, n) => .tup [.str (mkS [c]), .int (n : Nat)]
def rdP (l : List Nat) : Option (Nat × Nat) := match (spl [44] 0 [] l).map rdN with
  | [some x, some y] => some (x, y)
  | _ => none
def encOP : Option (Nat × Nat) → D
  | none => .non
  | some (x, y) => .tup [.int (x : Nat), .int (y : Nat)]
section
variable {k : Nat} {v : D} {S : Sto} {Q : D → Sto → Prop} {E : Nat → List D → Sto → Prop}
theorem w_readrun_any {x : Str} (hl : x.length ≤ 640) (hQ : Q (encOR (rdR (tl x))) S) : WR (CF (k + 2) f_read_run [.str x] S) Q E := by
  obtain ⟨l, rfl⟩ : ∃ l, x = mkS l := ⟨tl x, (mkS_tl x).symm⟩
  rw [tl_mkS] at hQ
  rw [mkS_len] at hl
  have z640 : 640 ≤ sizeLine := by decide
  have rn : ∀ (l : List Nat), l.length ≤ 640 → ∀ Q E (S : Sto), Q (encON (rdN l)) S → WR (CF (k + 1) f_read_number [.str (mkS l)] S) Q E := fun l hl Q E S h => w_number_any (k := k) (x := mkS l) (by rw [mkS_len]; exact hl) h
  rw [cf_run (fd := fd_read_run) rfl rfl]
  show Ws (run W (CF (k + 1)) G bd_read_run [some (.str (mkS l)), none] S) _
  unfold bd_read_run
  generalize CF (k + 1) = C at *
  have lz : (mkS l).length ≤ sizeLine := by rw [mkS_len]; omega
  cases l with
  | nil =>
    have sl : ∀ S, slD (.str (mkS [])) (some 1) none S = .ok (.str (mkS [])) S := fun S => by
      show (if (mkS []).length ≤ sizeLine then R.ok (D.str (L2.cutS (mkS []) (some 1) none)) S else .bad) = _
      rw [if_pos lz]
      rfl
    have rn := rn [] (by simp)
    refine s_seq (fun ρ S1 => S1 = S ∧ ρ = [some (.str (mkS [])), some .non]) ?_ ?_
    · simp [sl]
      refine rn _ _ _ ?_
      have : encON (rdN []) = .non := rfl
      simp [this]
    rintro ρ S1 ⟨rfl, rfl⟩
    simp [isNon]
    exact hQ
  | cons c l =>
    rw [List.length_cons] at hl
    have sl : ∀ S, slD (.str (mkS (c :: l))) (some 1) none S = .ok (.str (mkS l)) S := fun S => by
      show (if (mkS (c :: l)).length ≤ sizeLine then R.ok (D.str (L2.cutS (mkS (c :: l)) (some 1) none)) S else .bad) = _
      rw [if_pos lz, cut_tail]
    have ix : ∀ S, ixD (.str (mkS (c :: l))) (.int 0) S = some (.str (mkS [c])) := fun S => by
      show (if (mkS (c :: l)).length ≤ sizeLine then (atI (c :: l) 0).map fun c => D.str ⟨#[c]⟩ else none) = _
      have ha : atI (c :: l) ((0 : Nat) : Int) = some c := atI_nat rfl
      rw [if_pos lz, show (0 : Int) = ((0 : Nat) : Int) from rfl, ha]
      rfl
    have rn := rn l (by omega)
    have lte : ∀ j, D.lt j (encON (rdN l)) = true := fun j => by cases rdN l <;> simp [encON]
    refine s_seq (fun ρ S1 => S1 = S ∧ ρ = [some (.str (mkS (c :: l))), some (encON (rdN l))]) ?_ ?_
    · simp [sl]
      refine rn _ _ _ ?_
      simp
    rintro ρ S1 ⟨rfl, rfl⟩
    have e1 : rdR (c :: l) = (rdN l).map fun n => (c, n) := rfl
    rw [e1] at hQ
    cases h : rdN l with
    | none =>
      rw [h] at hQ
      simp [encON, isNon]
      exact hQ
    | some n =>
      rw [h] at hQ
      simp [encON, isNon, ix]
      exact hQ
theorem w_readpt_any {x : Str} (hl : x.length + 2 ≤ sizeLine) (hw : ∀ p ∈ spl [44] 0 [] (tl x), p.length ≤ 640) (hQ : Q (encOP (rdP (tl x))) S) : WR (CF (k + 2) f_read_point [.str x] S) Q E := by
  obtain ⟨ps, hps⟩ : ∃ ps, ps = spl [44] 0 [] (tl x) := ⟨_, rfl⟩
  have com : tl ("," : Str) = [44] := by with_unfolding_all rfl
  have coml : ("," : Str).length = 1 := by with_unfolding_all rfl
  have sp : Txt.split x "," = ps.map mkS := by
    refine map_tl_inj ?_
    rw [split_spl x "," (by rw [com]; simp) (kind_ok (by with_unfolding_all rfl)), com, List.map_map, hps]
    exact (List.map_id _).symm
  have rn : ∀ p ∈ ps, ∀ Q E (S : Sto), Q (encON (rdN p)) S → WR (CF (k + 1) f_read_number [.str (mkS p)] S) Q E := fun p hp Q E S h => w_number_any (k := k) (x := mkS p) (by rw [mkS_len]; exact hw p (hps ▸ hp)) h
  have hG : G 6 = some (.str ",") := rfl
  have lp : ps.length ≤ sizeLine := by
    have h := PyProof.Rows.split_le x ","
    rw [sp, List.length_map] at h
    omega
  have spl : ∀ Q E (S : Sto), WR (splF [.str x, .str ","] S) Q E = Q (.loc S.length) (S ++ [.lst ((ps.map mkS).map D.str)]) := fun Q E S => by
    rw [e_splF (by rw [coml]; rfl) hl, sp]
  rw [cf_run (fd := fd_read_point) rfl rfl]
  show Ws (run W (CF (k + 1)) G bd_read_point [some (.str x), none, none] S) _
  unfold bd_read_point
  generalize CF (k + 1) = C at *
  have hP : rdP (tl x) = match ps.map rdN with
    | [some x, some y] => some (x, y)
    | _ => none := by rw [hps]; rfl
  rw [hP] at hQ
  obtain ⟨P1, hP1⟩ : ∃ P : Env → Sto → Prop, ∀ ρ S1, P ρ S1 ↔ ∃ K u, S1 = S ++ K ∧ ρ = [some (.str x), some (.fl ((ps.map rdN).map encON)), u] := ⟨_, fun _ _ => Iff.rfl⟩
  refine s_seq P1 ?_ ?_
  · rw [s_fz]
    simp [hG, spl]
    obtain ⟨T, hT⟩ : ∃ T, T = S ++ [SO.lst (ps.map (D.str ∘ mkS))] := ⟨_, rfl⟩
    have gT : lstAt T S.length = some (ps.map fun p => D.str (mkS p)) := by
      rw [hT]
      unfold lstAt
      rw [List.getElem?_append_right (Nat.le_refl _), Nat.sub_self]
      rfl
    rw [← hT]
    refine lcS_m (m := ps) (enc := fun p => D.str (mkS p)) (walk_lst gT) (fun p => encON (rdN p)) lp (fun p hp => ?_) ?_
    · simp
      refine rn p hp _ _ _ ?_
      simp
    · rw [hT]
      show Ws (fzE 1 _ _ _) _
      rw [List.append_assoc]
      refine fz_any0 rfl (ds := (ps.map rdN).map encON) ?_ (by simp) fun G1 => ?_
      · rw [← List.append_assoc, List.getElem?_append_right (Nat.le_refl _), Nat.sub_self, List.map_map]
        rfl
      · exact (hP1 _ _).mpr ⟨G1, _, rfl, rfl⟩
  intro ρ S1 hz
  obtain ⟨K, u, rfl, rfl⟩ := (hP1 _ _).mp hz
  generalize ps.map rdN = os at *
  have ln : ∀ S, lenD (.fl (os.map encON)) S = some os.length := fun S => by
    show some (os.map encON).length = _
    rw [List.length_map]
  have cn : ∀ o, cl 0 (encON o) = true := fun o => by cases o <;> rfl
  have ni : ∀ S, cmpD .NotIn .non (.fl (os.map encON)) S = some (decide (none ∉ os)) := fun S => by
    show (inD .non (.fl (os.map encON)) S).map (!·) = _
    rw [in_cl (n := 0) (m := 0) (b := decide (none ∈ os)) rfl (fun d hd => by
      obtain ⟨o, _, rfl⟩ := List.mem_map.mp hd
      exact cn o) (by decide) (by decide) (by
        rw [decide_eq_true_iff, List.mem_map]
        constructor
        · exact fun h => ⟨none, h, rfl⟩
        · rintro ⟨o, ho, e⟩
          cases o with
          | none => exact ho
          | some n => cases e)]
    simp
  obtain ⟨V, hV⟩ : ∃ V, V = D.fl (os.map encON) := ⟨_, rfl⟩
  rw [← hV] at ln ni ⊢
  have tp : ∀ S, biD .tuple [V] S = .ok (.tup (os.map encON)) S := fun S => by rw [hV]; rfl
  simp [ln, ni, tp]
  clear ln ni tp hV hP1
  match os, hQ with
  | [], hQ => simp; exact hQ
  | [none], hQ => simp; exact hQ
  | [some a], hQ => simp; exact hQ
  | [none, o], hQ => simp; exact hQ
  | [some a, none], hQ => simp; exact hQ
  | [some a, some b], hQ => simp [encON]; exact hQ
  | a :: b :: c :: r, hQ =>
    have e : ¬ (((a :: b :: c :: r).length : Nat) : Int) = 2 := by
      rw [List.length_cons, List.length_cons, List.length_cons]
      omega
    rw [if_neg e, if_neg e]
    cases a <;> cases b <;> exact hQ
end
end CC
namespace CC
open PySem PySem.Spec PyProof.Rows L2 TL
def rdD (l : List Nat) : List (Option (Nat × Nat)) := (spl [32] 0 [] l).map rdP
section
variable {k : Nat} {v : D} {S : Sto} {Q : D → Sto → Prop} {E : Nat → List D → Sto → Prop}
def Short (n : Nat) (l : List Nat) : Prop := ∀ w ∈ spl [32] 0 [] l, w.length + 2 ≤ sizeLine ∧ ∀ p ∈ spl [44] 0 [] w, p.length ≤ n
theorem w_pdrive_any {x : Str} (hl : x.length + 2 ≤ sizeLine) (hw : Short 640 (tl x)) (hQ : if none ∈ rdD (tl x) then E 7 [] S else Q (.fl ((rdD (tl x)).map encOP)) S) : WR (CF (k + 3) f_parse_drive [.str x] S) Q E := by
  obtain ⟨ps, hps⟩ : ∃ ps, ps = spl [32] 0 [] (tl x) := ⟨_, rfl⟩
  have spct : tl (" " : Str) = [32] := by with_unfolding_all rfl
  have spcl : (" " : Str).length = 1 := by with_unfolding_all rfl
  have sp : Txt.split x " " = ps.map mkS := by
    refine map_tl_inj ?_
    rw [split_spl x " " (by rw [spct]; simp) (kind_ok (by with_unfolding_all rfl)), spct, List.map_map, hps]
    exact (List.map_id _).symm
  have rp : ∀ p ∈ ps, ∀ Q E (S : Sto), Q (encOP (rdP p)) S → WR (CF (k + 2) f_read_point [.str (mkS p)] S) Q E := fun p hp Q E S h => by
    obtain ⟨h1, h2⟩ := hw p (hps ▸ hp)
    exact w_readpt_any (k := k) (x := mkS p) (by rw [mkS_len]; exact h1) h2 h
  have hG : G 4 = some (.str " ") := rfl
  have lp : ps.length ≤ sizeLine := by
    have h := PyProof.Rows.split_le x " "
    rw [sp, List.length_map] at h
    omega
  have spl : ∀ Q E (S : Sto), WR (splF [.str x, .str " "] S) Q E = Q (.loc S.length) (S ++ [.lst ((ps.map mkS).map D.str)]) := fun Q E S => by
    rw [e_splF (by rw [spcl]; rfl) hl, sp]
  have hD : rdD (tl x) = ps.map rdP := by rw [hps]; rfl
  rw [hD] at hQ
  rw [cf_run (fd := fd_parse_drive) rfl rfl]
  show Ws (run W (CF (k + 2)) G bd_parse_drive [some (.str x), none, none] S) _
  unfold bd_parse_drive
  generalize CF (k + 2) = C at *
  refine s_seq (fun ρ S1 => S1 = S ∧ ρ = [some (.str x), none, none]) ?_ ?_
  · have hi : ∀ S, isinst (.str x) (.ty "str") S = some true := fun S => by with_unfolding_all rfl
    simp [hi]
  rintro ρ S1 ⟨rfl, rfl⟩
  obtain ⟨P1, hP1⟩ : ∃ P : Env → Sto → Prop, ∀ ρ S2, P ρ S2 ↔ ∃ K u, S2 = S1 ++ K ∧ ρ = [some (.str x), some (.fl ((ps.map rdP).map encOP)), u] := ⟨_, fun _ _ => Iff.rfl⟩
  refine s_seq P1 ?_ ?_
  · rw [s_fz]
    simp [hG, spl]
    obtain ⟨T, hT⟩ : ∃ T, T = S1 ++ [SO.lst (ps.map (D.str ∘ mkS))] := ⟨_, rfl⟩
    have gT : lstAt T S1.length = some (ps.map fun p => D.str (mkS p)) := by
      rw [hT]
      unfold lstAt
      rw [List.getElem?_append_right (Nat.le_refl _), Nat.sub_self]
      rfl
    rw [← hT]
    refine lcS_m (m := ps) (enc := fun p => D.str (mkS p)) (walk_lst gT) (fun p => encOP (rdP p)) lp (fun p hp => ?_) ?_
    · simp
      refine rp p hp _ _ _ ?_
      simp
    · rw [hT]
      show Ws (fzE 1 _ _ _) _
      rw [List.append_assoc]
      refine fz_any0 rfl (ds := (ps.map rdP).map encOP) ?_ (by simp) fun G1 => ?_
      · rw [← List.append_assoc, List.getElem?_append_right (Nat.le_refl _), Nat.sub_self, List.map_map]
        rfl
      · exact (hP1 _ _).mpr ⟨G1, _, rfl, rfl⟩
  intro ρ S2 hz
  obtain ⟨K, u, rfl, rfl⟩ := (hP1 _ _).mp hz
  generalize ps.map rdP = os at *
  have cn : ∀ o, cl 1 (encOP o) = true := fun o => by cases o <;> rfl
  have ni : ∀ S, cmpD .In .non (.fl (os.map encOP)) S = some (decide (none ∈ os)) := fun S => by
    show inD .non (.fl (os.map encOP)) S = _
    exact in_cl (n := 0) (m := 1) rfl (fun d hd => by
      obtain ⟨o, _, rfl⟩ := List.mem_map.mp hd
      exact cn o) (by decide) (by decide) (by
        rw [decide_eq_true_iff, List.mem_map]
        constructor
        · exact fun h => ⟨none, h, rfl⟩
        · rintro ⟨o, ho, e⟩
          cases o with
          | none => exact ho
          | some n => cases e)
  have lt : ∀ j, ltL j (os.map encOP) = true := fun j => ltL_map' fun o => by cases o <;> simp [encOP]
  by_cases c : none ∈ os
  · rw [if_pos c] at hQ
    simp [ni, c]
    exact hQ
  · rw [if_neg c] at hQ
    refine s_seq (fun ρ S3 => S3 = S1 ++ K ∧ ρ = [some (.str x), some (.fl (os.map encOP)), u]) ?_ ?_
    · simp [ni, c]
    rintro ρ S3 ⟨rfl, rfl⟩
    simp [lt]
    exact hQ
end
end CC
namespace CC
open PySem PySem.Spec PyProof.Rows L2 TL
def rdC (l : List Nat) : D := .tup ((spl [32, 124, 32] 0 [] l).map fun p => .tup ((spl [32] 0 [] p).map fun w => encOR (rdR w)))
section
variable {k : Nat} {v : D} {S : Sto} {Q : D → Sto → Prop} {E : Nat → List D → Sto → Prop}
theorem split_gen {x y : Str} {s : List Nat} (ey : tl y = s) (hs : s ≠ []) (hk : y.cps.all (· < 256) = true) : Txt.split x y = (spl s 0 [] (tl x)).map mkS := by
  refine map_tl_inj ?_
  rw [split_spl x y (by rw [ey]; exact hs) (kind_ok hk), ey, List.map_map]
  exact (List.map_id _).symm
theorem nice_OR {o : Option (Nat × Nat)} : Nice 2 (encOR o) S := by
  cases o with
  | none => exact ⟨rfl, fun _ e => nomatch e⟩
  | some r =>
    obtain ⟨c, n⟩ := r
    refine ⟨rfl, fun ds e => ?_⟩
    cases e
    refine ⟨by simp [sizeLine], fun d hd => ?_⟩
    simp at hd
    rcases hd with rfl | rfl
    · exact ⟨rfl, fun _ e => nomatch e⟩
    · exact ⟨rfl, fun _ e => nomatch e⟩
theorem w_pcity_any {x : Str} (hl : x.length + 2 ≤ sizeLine) (hp : ∀ p ∈ spl [32, 124, 32] 0 [] (tl x), p.length + 2 ≤ sizeLine ∧ ∀ w ∈ spl [32] 0 [] p, w.length ≤ 640) (hQ : if isCityD (rdC (tl x)) = true then Q (rdC (tl x)) S else E 7 [] S) : WR (CF (k + 5) f_parse_city [.str x] S) Q E := by
  obtain ⟨ps, hps⟩ : ∃ ps, ps = spl [32, 124, 32] 0 [] (tl x) := ⟨_, rfl⟩
  have spcl : (" " : Str).length = 1 := by with_unfolding_all rfl
  have barl : (" | " : Str).length = 3 := by with_unfolding_all rfl
  have sb : Txt.split x " | " = ps.map mkS := by
    rw [split_gen bar_tl (by simp) (by with_unfolding_all rfl), hps]
  have ss : ∀ p : List Nat, Txt.split (mkS p) " " = (spl [32] 0 [] p).map mkS := fun p => split_gen (x := mkS p) spc_tl (by simp) (by with_unfolding_all rfl)
  have rr : ∀ w : List Nat, w.length ≤ 640 → ∀ Q E (S : Sto), Q (encOR (rdR w)) S → WR (CF (k + 4) f_read_run [.str (mkS w)] S) Q E := fun w hw Q E S h => w_readrun_any (k := k + 2) (x := mkS w) (by rw [mkS_len]; exact hw) h
  have hG : G 5 = some (.str " | ") := rfl
  have hG2 : G 4 = some (.str " ") := rfl
  have lp : ps.length ≤ sizeLine := by
    have h := PyProof.Rows.split_le x " | "
    rw [sb, List.length_map] at h
    omega
  have lw : ∀ p ∈ ps, (spl [32] 0 [] p).length ≤ sizeLine := fun p hp2 => by
    have h := PyProof.Rows.split_le (mkS p) " "
    have h2 := (hp p (hps ▸ hp2)).1
    rw [ss, List.length_map, mkS_len] at h
    omega
  obtain ⟨V, hV⟩ : ∃ V, V = rdC (tl x) := ⟨_, rfl⟩
  have nV : ∀ S, Nice 4 V S := fun S => by
    rw [hV]
    refine ⟨rfl, fun ds e => ?_⟩
    cases e
    refine ⟨by rw [List.length_map, ← hps]; exact lp, fun d hd => ?_⟩
    obtain ⟨p, hp2, rfl⟩ := List.mem_map.mp hd
    refine ⟨rfl, fun es e => ?_⟩
    cases e
    refine ⟨by rw [List.length_map]; exact lw p (hps ▸ hp2), fun d hd => ?_⟩
    obtain ⟨w, _, rfl⟩ := List.mem_map.mp hd
    exact nice_OR
  have ic : ∀ Q E (S : Sto), Q (.bl (isCityD V)) S → WR (CF (k + 4) f_is_city [V] S) Q E := fun Q E S h => by
    rw [e_is_city (k := k) (nV S)]
    exact h
  have sc : ∀ Q E (S : Sto), WR (splF [.str x, .str " | "] S) Q E = Q (.loc S.length) (S ++ [.lst ((ps.map mkS).map D.str)]) := fun Q E S => by
    rw [e_splF (by rw [barl]; rfl) hl, sb]
  have sr : ∀ p ∈ ps, ∀ Q E (S : Sto), WR (splF [.str (mkS p), .str " "] S) Q E = Q (.loc S.length) (S ++ [.lst (((spl [32] 0 [] p).map mkS).map D.str)]) := fun p hp2 Q E S => by
    rw [e_splF (by rw [spcl]; rfl) (by rw [mkS_len]; exact (hp p (hps ▸ hp2)).1), ss]
  rw [← hV] at hQ
  rw [cf_run (fd := fd_parse_city) rfl rfl]
  show Ws (run W (CF (k + 4)) G bd_parse_city [some (.str x), none, none, none] S) _
  unfold bd_parse_city
  generalize CF (k + 4) = C at *
  refine s_seq (fun ρ S1 => S1 = S ∧ ρ = [some (.str x), none, none, none]) ?_ ?_
  · have hi : ∀ S, isinst (.str x) (.ty "str") S = some true := fun S => by with_unfolding_all rfl
    simp [hi]
  rintro ρ S1 ⟨rfl, rfl⟩
  have ltOR : ∀ (j : Nat) (o : Option (Nat × Nat)), D.lt j (encOR o) = true := fun j o => by
    cases o with
    | none => simp [encOR]
    | some r => simp [encOR]
  refine s_seq (fun ρ S2 => S2 = S1 ∧ ρ = [some (.str x), some V, none, none]) ?_ ?_
  · simp [hG, sc]
    obtain ⟨T, hT⟩ : ∃ T, T = S1 ++ [SO.lst (ps.map (D.str ∘ mkS))] := ⟨_, rfl⟩
    have gT : lstAt T S1.length = some (ps.map fun p => D.str (mkS p)) := by
      rw [hT]
      unfold lstAt
      rw [List.getElem?_append_right (Nat.le_refl _), Nat.sub_self]
      rfl
    rw [← hT]
    refine lcS_m (m := ps) (enc := fun p => D.str (mkS p)) (walk_lst gT) (fun p => .tup ((spl [32] 0 [] p).map fun w => encOR (rdR w))) lp (fun p hp2 => ?_) ?_
    · simp [hG2, sr p hp2]
      obtain ⟨ws, hws⟩ : ∃ ws, ws = spl [32] 0 [] p := ⟨_, rfl⟩
      have hw2 : ∀ w ∈ ws, w.length ≤ 640 := fun w hw => (hp p (hps ▸ hp2)).2 w (hws ▸ hw)
      have lws : ws.length ≤ sizeLine := by rw [hws]; exact lw p hp2
      rw [← hws]
      obtain ⟨U, hU⟩ : ∃ U, U = T ++ [SO.lst (ws.map (D.str ∘ mkS))] := ⟨_, rfl⟩
      have gU : lstAt U T.length = some (ws.map fun w => D.str (mkS w)) := by
        rw [hU]
        unfold lstAt
        rw [List.getElem?_append_right (Nat.le_refl _), Nat.sub_self]
        rfl
      rw [← hU]
      refine lcS_m (m := ws) (enc := fun w => D.str (mkS w)) (walk_lst gU) (fun w => encOR (rdR w)) lws (fun w hw => ?_) ?_
      · simp
        refine rr w (hw2 w hw) _ _ _ ?_
        simp
      · rw [hU, fr_ext rfl (ltL_map' fun w => ltOR _ _)]
        simp
    · rw [hT, fr_ext rfl (ltL_map' fun p => by
        rw [lt_tup]
        exact ltL_map' fun w => ltOR _ _)]
      simp
      rw [hV]
      unfold rdC
      rw [hps]
  rintro ρ S2 ⟨rfl, rfl⟩
  cases hc : isCityD V with
  | true =>
    rw [hc, if_pos rfl] at hQ
    simp
    refine ic _ _ _ ?_
    simp [hc]
    have : cutS S2 (D.lt S2.length V) S2 = S2 := cut_same
    try rw [this]
    exact hQ
  | false =>
    rw [hc] at hQ
    simp
    refine ic _ _ _ ?_
    simp [hc]
    exact hQ
end
end CC
namespace CC
open PySem PySem.Spec PyProof.Rows L2 TL
def lwN (l : List Nat) : Int := match rdN l with
  | none => -1
  | some n => n
theorem dgv_lt : ∀ l : List Nat, NumText.AllDigits l → NumText.digitsVal l < 10 ^ l.length := by
  have key : ∀ (n : Nat) (l : List Nat), l.length = n → NumText.AllDigits l → NumText.digitsVal l < 10 ^ n := by
    intro n
    induction n with
    | zero =>
      intro l hl _
      rw [List.eq_nil_of_length_eq_zero hl]
      decide
    | succ n ih =>
      intro l hl h
      rcases List.eq_nil_or_concat l with rfl | ⟨i, c, rfl⟩
      · cases hl
      · rw [List.concat_eq_append] at hl h ⊢
        rw [List.length_append] at hl
        have h1 := ih i (by simpa using hl) fun d hd => h d (List.mem_append_left _ hd)
        have h2 := h c (List.mem_append_right _ List.mem_cons_self)
        rw [NumText.digitsVal_snoc, Nat.pow_succ]
        omega
  exact fun l h => key _ l rfl h
theorem isDg_all {l : List Nat} (h : l.all isDg = true) : NumText.AllDigits l := fun c hc => by
  have := List.all_eq_true.mp h c hc
  unfold isDg at this
  rw [Bool.and_eq_true, decide_eq_true_iff, decide_eq_true_iff] at this
  exact this
section
variable {n : Nat} {C : CallSem} {G : Nat → Option D} {ρ : Env} {S : Sto} {p : Po} {c : Xp} {A B : Sx}
theorem s_ifT (h : asT (ev C G c ρ S) = .ok true S) (k : Ws (run n C G A ρ S) p) : Ws (run n C G (.iff c A B) ρ S) p := by
  show Ws (ofR (asT (ev C G c ρ S)) ρ fun t S1 => if t then run n C G A ρ S1 else run n C G B ρ S1) p
  rw [h]
  exact k
theorem s_ifF (h : asT (ev C G c ρ S) = .ok false S) (k : Ws (run n C G B ρ S) p) : Ws (run n C G (.iff c A B) ρ S) p := by
  show Ws (ofR (asT (ev C G c ρ S)) ρ fun t S1 => if t then run n C G A ρ S1 else run n C G B ρ S1) p
  rw [h]
  exact k
end
section
variable {k : Nat} {v : D} {S : Sto} {Q : D → Sto → Prop} {E : Nat → List D → Sto → Prop}
theorem dig_ix : ∀ c : Nat, 48 ≤ c → c ≤ 57 → ∀ (S : Sto), sixF [.str "0123456789", .str ⟨#[c]⟩] S = .ok (.int ((c - 48 : Nat) : Int)) S := by
  intro c h1 h2 S
  obtain ⟨d, rfl⟩ : ∃ d, c = 48 + d := ⟨c - 48, by omega⟩
  have hd : d < 10 := by omega
  have key : ∀ d : Fin 10, (Builtin.Str.occurrences ("0123456789" : Str) ⟨#[48 + d.val]⟩ 0 ("0123456789" : Str).length 1).head? = some d.val := by decide +kernel
  have k1 := key ⟨d, hd⟩
  show (match Builtin.Str.occurrences ("0123456789" : Str) ⟨#[48 + d]⟩ 0 ("0123456789" : Str).length 1 with
    | i :: _ => R.ok (D.int (i : Nat)) S
    | [] => .bad) = _
  cases h : Builtin.Str.occurrences ("0123456789" : Str) ⟨#[48 + d]⟩ 0 ("0123456789" : Str).length 1 with
  | nil => rw [h] at k1; cases k1
  | cons i r =>
    rw [h] at k1
    injection k1 with k1
    have : i = d := k1
    rw [this, Nat.add_sub_cancel_left]
theorem w_lawnum {x : Str} (hl : x.length ≤ 640) (hQ : Q (.int (lwN (tl x))) S) : WR (CF (k + 1) f__law_number [.str x] S) Q E := by
  obtain ⟨l, rfl⟩ : ∃ l, x = mkS l := ⟨tl x, (mkS_tl x).symm⟩
  rw [tl_mkS] at hQ
  rw [mkS_len] at hl
  have lz : l.length ≤ sizeLine := Nat.le_trans hl (by decide)
  rw [cf_run (fd := fd__law_number) rfl rfl]
  show Ws (run W (CF k) G bd__law_number [some (.str (mkS l)), none, none] S) _
  unfold bd__law_number
  have e0 : ∀ S, cmpD .Eq (.str (mkS l)) (.str "") S = some (decide (l = [])) := fun S => by
    show some (mkS l == "") = _
    congr 1
    by_cases h : l = []
    · subst h; rfl
    · rw [decide_eq_false h, beq_eq_false_iff_ne]
      intro e
      exact h (mkS_inj (e.trans rfl))
  have nin : ∀ (c : Nat) S, cmpD .NotIn (.str ⟨#[c]⟩) (.str "0123456789") S = some (!isDg c) := fun c S => by
    have h := in_dg (c := c) (S := S)
    have h : inD (.str ⟨#[c]⟩) (.str "0123456789") S = some (isDg c) := h
    show (inD (.str ⟨#[c]⟩) (.str "0123456789") S).map (!·) = _
    rw [h]
    rfl
  have nn : ∀ (ds : List D) S, cmpD .NotEq (.fl ds) (.fl []) S = some (!ds.isEmpty) := fun ds S => by
    have h := eq_nil (S := S) (x := .fl ds) (ds := ds) rfl
    have h : qEq (.fl ds) (.fl []) S = some ds.isEmpty := h
    show (qEq (.fl ds) (.fl []) S).map (!·) = _
    rw [h]
    rfl
  refine s_seq (fun ρ S1 => S1 = S ∧ ρ = [some (.str (mkS l)), none, none] ∧ l.all isDg = true ∧ rdN l = some (NumText.digitsVal l)) ?_ ?_
  · by_cases h1 : l = []
    · subst h1
      have e1 : lwN [] = -1 := rfl
      rw [e1] at hQ
      simp [e0]
      exact hQ
    · simp [e0, h1]
      show WR (lcl (.ds (l.map fun c => D.str ⟨#[c]⟩)) _ _ _ _ _ _ _ _) _ _
      refine lc_fm (m := l) (enc := fun c => D.str ⟨#[c]⟩) (fun c => !isDg c) (fun c => D.str ⟨#[c]⟩) lz (fun c hc => ?_) ?_
      · simp [nin]
      · rw [fr_new (ltL_map' fun _ => by simp)]
        by_cases h2 : l.all isDg = true
        · have hne : (l.filter fun c => !isDg c) = [] := by
            rw [List.filter_eq_nil_iff]
            intro c hc
            rw [List.all_eq_true.mp h2 c hc]
            decide
          obtain ⟨c0, r, rfl⟩ : ∃ c r, l = c :: r := by
            cases l with
            | nil => exact absurd rfl h1
            | cons c r => exact ⟨c, r, rfl⟩
          have ix : ∀ S, ixD (.str (mkS (c0 :: r))) (.int 0) S = some (.str ⟨#[c0]⟩) := fun S => by
            show (if (mkS (c0 :: r)).length ≤ sizeLine then (atI (c0 :: r) 0).map fun c => D.str ⟨#[c]⟩ else none) = _
            have ha : atI (c0 :: r) ((0 : Nat) : Int) = some c0 := atI_nat rfl
            rw [if_pos (by rw [mkS_len]; exact lz), show (0 : Int) = ((0 : Nat) : Int) from rfl, ha]
            rfl
          have n1 : ∀ S, cmpD .Eq (.str ⟨#[c0]⟩) (.str "0") S = some (decide (c0 = 48)) := fun S => by
            show some ((⟨#[c0]⟩ : Str) == "0") = _
            congr 1
            by_cases h : c0 = 48
            · subst h; rfl
            · rw [decide_eq_false h, beq_eq_false_iff_ne]
              intro z
              have := congrArg TL.tl z
              have t0 : TL.tl ("0" : Str) = [48] := by with_unfolding_all rfl
              rw [t0] at this
              injection this with h2 _
              exact h h2
          have ln : ∀ S, lenD (.str (mkS (c0 :: r))) S = some (r.length + 1) := fun S => by
            show (if (mkS (c0 :: r)).length ≤ sizeLine then some (mkS (c0 :: r)).length else none) = _
            rw [if_pos (by rw [mkS_len]; exact lz), mkS_len, List.length_cons]
          have e4 : rdN (c0 :: r) = if c0 = 48 ∧ c0 :: r ≠ [48] then none else some (NumText.digitsVal (c0 :: r)) := by
            unfold rdN
            rw [if_neg (by simp [h2])]
            simp
          rw [hne]
          simp [nn, ix, n1]
          by_cases h3 : c0 = 48
          · subst h3
            cases r with
            | nil =>
              simp [ln]
              refine ⟨by simpa using h2, ?_⟩
              rw [e4, if_neg (by simp)]
            | cons d r =>
              have e5 : lwN (48 :: d :: r) = -1 := by
                unfold lwN
                rw [e4, if_pos (by simp)]
              rw [e5] at hQ
              have e6 : (1 : Int) < ((r.length : Nat) : Int) + 1 + 1 := by omega
              simp [ln, e6]
              exact hQ
          · rw [if_neg (fun z => h3 z.1)] at e4
            simp [h3]
            exact ⟨by simpa using h2, e4⟩
        · have e3 : lwN l = -1 := by
            unfold lwN rdN
            rw [if_pos (.inr h2)]
          rw [e3] at hQ
          have hne : (l.filter fun c => !isDg c) ≠ [] := by
            rw [Ne, List.filter_eq_nil_iff]
            intro h
            refine h2 (List.all_eq_true.mpr fun c hc => ?_)
            simpa using h c hc
          have hne2 : (((l.filter fun c => !isDg c).map fun c => D.str ⟨#[c]⟩).isEmpty) = false := by
            cases h : (l.filter fun c => !isDg c) with
            | nil => exact absurd h hne
            | cons _ _ => rfl
          generalize ((l.filter fun c => !isDg c).map fun c => D.str ⟨#[c]⟩) = fs at hne2 ⊢
          simp [nn, hne2]
          exact hQ
  rintro ρ S1 ⟨rfl, rfl, h2, h3⟩
  have ad := isDg_all h2
  have e7 : lwN l = (NumText.digitsVal l : Nat) := by unfold lwN; rw [h3]
  rw [e7] at hQ
  refine s_seq (fun ρ S2 => S2 = S1 ∧ ρ = [some (.str (mkS l)), none, some (.int 0)]) (by simp) ?_
  rintro ρ S2 ⟨rfl, rfl⟩
  refine s_seq (fun ρ S3 => S3 = S2 ∧ ∃ u, ρ = [some (.str (mkS l)), u, some (.int (NumText.digitsVal l : Nat))]) ?_ ?_
  · obtain ⟨I, hI⟩ : ∃ I : List Nat → Env → Sto → Prop, ∀ rem ρ S3, I rem ρ S3 ↔ S3 = S2 ∧ ∃ dn u, l = dn ++ rem ∧ ρ = [some (.str (mkS l)), u, some (.int (NumText.digitsVal dn : Nat))] := ⟨_, fun _ _ _ => Iff.rfl⟩
    simp
    show Ws (forl (.ds (l.map fun c => D.str ⟨#[c]⟩)) _ _ _ _ _ _) _
    refine ws_for_map (m := l) (f := fun c => D.str ⟨#[c]⟩) I ?_ ?_ ((hI _ _ _).mpr ⟨rfl, [], _, rfl, rfl⟩)
    · intro c rem ρ S3 hz
      obtain ⟨rfl, dn, u, hd, rfl⟩ := (hI _ _ _).mp hz
      have hc := ad c (by rw [hd]; exact List.mem_append_right _ List.mem_cons_self)
      have hdn : NumText.AllDigits dn := fun d h => ad d (by rw [hd]; exact List.mem_append_left _ h)
      have hle : dn.length ≤ 640 := by
        have := congrArg List.length hd
        rw [List.length_append] at this
        omega
      have hb := dgv_lt dn hdn
      have hb2 : 10 ^ dn.length ≤ 10 ^ 640 := Nat.pow_le_pow_right (by decide) hle
      have hb3 : 10 ^ 640 < 2 ^ 9000 := by decide +kernel
      have mo : mulOk ((NumText.digitsVal dn : Nat) : Int) 10 = true := mulOk_of (k := 9000) (l := 4) (by omega) (by
        have : NumText.digitsVal dn < 2 ^ 9000 := by omega
        exact_mod_cast this) (by decide) (by decide) (by decide) (by decide) (by decide)
      have six := fun S => dig_ix c hc.1 hc.2 S
      have e8 : (((NumText.digitsVal dn : Nat) : Int) * 10 + ((c - 48 : Nat) : Int)) = ((NumText.digitsVal (dn ++ [c]) : Nat) : Int) := by
        rw [NumText.digitsVal_snoc]
        push_cast
        rfl
      clear hb hb2 hb3
      simp [mo, six]
      refine (hI _ _ _).mpr ⟨rfl, dn ++ [c], some (.str ⟨#[c]⟩), by rw [List.append_assoc]; exact hd, ?_⟩
      rw [← e8]
    · intro ρ S3 hz
      obtain ⟨rfl, dn, u, hd, rfl⟩ := (hI _ _ _).mp hz
      rw [List.append_nil] at hd
      subst hd
      exact ⟨rfl, u, rfl⟩
  rintro ρ S3 ⟨rfl, u, rfl⟩
  simp
  exact hQ
end
end CC
namespace CC
open PySem PySem.Spec PyProof.Rows L2 TL
def Sg (n : Nat) (l : List Nat) : Prop := ∀ a w b, l = a ++ (w ++ b) → 32 ∉ w → w.length ≤ n
theorem Sg.le {n m : Nat} {l : List Nat} (h : Sg n l) (hm : n ≤ m) : Sg m l := fun a w b e hw => Nat.le_trans (h a w b e hw) hm
theorem Sg.of_len {n : Nat} {l : List Nat} (h : l.length ≤ n) : Sg n l := fun a w b e _ => by
  have := congrArg List.length e
  rw [List.length_append, List.length_append] at this
  omega
theorem Sg.sub {n : Nat} {l a p b : List Nat} (h : Sg n l) (e : l = a ++ (p ++ b)) : Sg n p := fun a' w b' e' hw => h (a ++ a') w (b' ++ b) (by rw [e, e']; simp) hw
theorem Sg.app {n m : Nat} {l r : List Nat} (h : Sg n l) (g : Sg m r) : Sg (n + m) (l ++ r) := fun a w b e hw => by
  rcases Nat.lt_or_ge (a.length + w.length) l.length with c | c
  · have e1 : l = a ++ (w ++ l.drop (a.length + w.length)) := by
      have := congrArg (List.take l.length) e
      rw [List.take_left'] at this
      · conv => lhs; rw [← List.take_append_drop (a.length + w.length) l]
        have e2 : l.take (a.length + w.length) = a ++ w := by
          have := congrArg (List.take (a.length + w.length)) e
          rw [List.take_append_of_le_length (by omega), ← List.append_assoc, List.take_left' (by simp)] at this
          exact this
        rw [e2, List.append_assoc]
      · rfl
    have := h a w _ e1 hw
    omega
  · rcases Nat.lt_or_ge a.length l.length with d | d
    ·
      have e2 : l = a ++ (w.take (l.length - a.length) ++ []) := by
        have := congrArg (List.take l.length) e
        rw [List.take_left' rfl, List.take_append, List.take_of_length_le (by omega)] at this
        rw [List.append_nil]
        rw [this, List.take_append_of_le_length (by omega)]
        simp
      have e3 : r = [] ++ (w.drop (l.length - a.length) ++ b) := by
        have := congrArg (List.drop l.length) e
        rw [List.drop_left' rfl, List.drop_append, List.drop_of_length_le (by omega : a.length ≤ l.length)] at this
        rw [List.nil_append, this, List.nil_append, List.drop_append_of_le_length (by omega)]
      have h1 := h a _ [] e2 (fun z => hw (List.mem_of_mem_take z))
      have h2 := g [] _ b e3 (fun z => hw (List.mem_of_mem_drop z))
      rw [List.length_take] at h1
      rw [List.length_drop] at h2
      omega
    · have e3 : r = a.drop l.length ++ (w ++ b) := by
        have := congrArg (List.drop l.length) e
        rw [List.drop_left' rfl, List.drop_append_of_le_length (by omega)] at this
        exact this
      have := g _ w b e3 hw
      omega
theorem Sg.take {n : Nat} {l : List Nat} (h : Sg n l) (i : Nat) : Sg n (l.take i) := h.sub (a := []) (b := l.drop i) (by rw [List.nil_append, List.take_append_drop])
theorem Sg.drop {n : Nat} {l : List Nat} (h : Sg n l) (i : Nat) : Sg n (l.drop i) := h.sub (a := l.take i) (b := []) (by rw [List.append_nil, List.take_append_drop])
theorem spl_part_n (S : List Nat) : ∀ (n : Nat) (l acc : List Nat), l.length ≤ n → ∀ p ∈ spl S 0 acc l, ∃ a b, acc ++ l = a ++ (p ++ b)
  | n, [], acc, _, p, hp => by
    rw [spl_nil, List.mem_singleton] at hp
    subst hp
    exact ⟨[], [], by simp⟩
  | 0, c :: l, acc, hn, p, hp => by
    rw [List.length_cons] at hn
    omega
  | n + 1, c :: l, acc, hn, p, hp => by
    rw [List.length_cons] at hn
    by_cases h : pre S (c :: l) = true
    · rw [spl_hit h] at hp
      rcases List.mem_cons.mp hp with rfl | hp
      · exact ⟨[], c :: l, by simp⟩
      · rw [spl_pass] at hp
        obtain ⟨a, b, e⟩ := spl_part_n S n (l.drop (S.length - 1)) [] (by rw [List.length_drop]; omega) p hp
        rw [List.nil_append] at e
        refine ⟨acc ++ [c] ++ l.take (S.length - 1) ++ a, b, ?_⟩
        have : l = l.take (S.length - 1) ++ (a ++ (p ++ b)) := by rw [← e, List.take_append_drop]
        conv => lhs; rw [this]
        simp
    · rw [spl_miss (by simpa using h)] at hp
      obtain ⟨a, b, e⟩ := spl_part_n S n l (acc ++ [c]) (by omega) p hp
      exact ⟨a, b, by rw [← e]; simp⟩
theorem spl_part_of (S l : List Nat) : ∀ p ∈ spl S 0 [] l, ∃ a b, l = a ++ (p ++ b) := fun p hp => by
  obtain ⟨a, b, e⟩ := spl_part_n S l.length l [] (Nat.le_refl _) p hp
  exact ⟨a, b, e⟩
theorem spl_len {S l : List Nat} : ∀ p ∈ spl S 0 [] l, p.length ≤ l.length := fun p hp => by
  obtain ⟨a, b, e⟩ := spl_part_of S l p hp
  have := congrArg List.length e
  rw [List.length_append, List.length_append] at this
  omega
theorem spl_free : ∀ (l acc : List Nat), 32 ∉ acc → ∀ p ∈ spl [32] 0 acc l, 32 ∉ p
  | [], acc, ha, p, hp => by
    rw [spl_nil, List.mem_singleton] at hp
    subst hp
    exact ha
  | c :: l, acc, ha, p, hp => by
    by_cases h : c = 32
    · subst h
      have e : spl [32] 0 acc (32 :: l) = acc :: spl [32] 0 [] l := by
        rw [spl_hit (by rfl)]
        rfl
      rw [e] at hp
      rcases List.mem_cons.mp hp with rfl | hp
      · exact ha
      · exact spl_free l [] (by simp) p hp
    · rw [spl_miss (pre_of_head [] l h)] at hp
      refine spl_free l (acc ++ [c]) (fun z => ?_) p hp
      rcases List.mem_append.mp z with z | z
      · exact ha z
      · exact h (List.mem_singleton.mp z).symm
structure Tx (n L : Nat) (l : List Nat) : Prop where
  sg : Sg n l
  len : l.length ≤ L
  chr : ∀ c ∈ l, c < 256
theorem Tx.le {n m L K : Nat} {l : List Nat} (h : Tx n L l) (hm : n ≤ m) (hL : L ≤ K) : Tx m K l := ⟨h.sg.le hm, Nat.le_trans h.len hL, h.chr⟩
theorem strOk_T {x : Str} (h : ∀ c ∈ tl x, c < 256) : PyData.strOk x = true := by
  unfold PyData.strOk
  rw [Array.all_eq_true_iff_forall_mem]
  intro c hc
  have := h c (Array.mem_toList_iff.mpr hc)
  rw [decide_eq_true_iff]
  omega
theorem atI_lastN {α : Type} {l : List α} {d : α} : atI (l ++ [d]) (-1) = some d := by
  unfold atI ixN
  simp
  rw [if_pos (by omega)]
  show (l ++ [d])[(-1 + ((l.length : Int) + 1)).toNat]? = _
  rw [show (-1 + ((l.length : Int) + 1)).toNat = l.length from by omega]
  simp
end CC
namespace CC
open PySem PySem.Spec PyProof.Rows L2 TL
def rnD (ws : List (List Nat)) : D := .tup (ws.map fun w => encOR (rdR w))
def okA (a b : Str) (l : List D) : Bool := l.all (isRunD a b) && (l.zip l.tail).all fun p => fstS p.1 != fstS p.2
theorem zip_snocT {d : D} : ∀ (m : List D) (y : D), ((y :: m) ++ [d]).zip (m ++ [d]) = (y :: m).zip m ++ [((y :: m).getLast (by simp), d)]
  | [], y => rfl
  | z :: m, y => by
    have ih := zip_snocT (d := d) m z
    show (y, z) :: ((z :: m) ++ [d]).zip (m ++ [d]) = _
    rw [ih]
    rfl
theorem okA_snoc {a b : Str} {l : List D} {d : D} : okA a b (l ++ [d]) = (okA a b l && (isRunD a b d && (match l.getLast? with
  | none => true
  | some e => fstS e != fstS d))) := by
  unfold okA
  cases l with
  | nil =>
    show ((isRunD a b d && true) && true) = (true && (isRunD a b d && true))
    cases isRunD a b d <;> rfl
  | cons y m =>
    have e1 : (y :: m ++ [d]).tail = m ++ [d] := rfl
    rw [e1, zip_snocT, List.all_append, List.all_append, List.getLast?_eq_some_getLast (by simp)]
    show ((_ && (isRunD a b d && true)) && (_ && ((fstS _ != fstS d) && true))) = ((_ && _) && (isRunD a b d && (fstS _ != fstS d)))
    rw [Bool.and_true, Bool.and_true]
    show ((_ && isRunD a b d) && (((y :: m).zip m).all _ && _)) = ((_ && ((y :: m).zip m).all _) && _)
    generalize ((y :: m).zip m).all (fun p => fstS p.1 != fstS p.2) = p1
    generalize List.all (y :: m) (isRunD a b) = p2
    cases p1 <;> cases p2 <;> simp
theorem okA_false {a b : Str} : ∀ {r l : List D}, okA a b l = false → okA a b (l ++ r) = false
  | [], l, h => by rw [List.append_nil]; exact h
  | d :: r, l, h => by
    have e : l ++ d :: r = (l ++ [d]) ++ r := by simp
    rw [e]
    refine okA_false ?_
    rw [okA_snoc, h]
    rfl
theorem areRuns_okA {a b : Str} {l : List D} (h : l ≠ []) : areRunsD a b (.tup l) = okA a b l := by
  unfold areRunsD okA
  cases l with
  | nil => exact absurd rfl h
  | cons d l => simp
theorem spl_ne (S : List Nat) : ∀ (l acc : List Nat) (k : Nat), spl S k acc l ≠ []
  | [], acc, k => by rw [spl_nil]; simp
  | c :: l, acc, 0 => by
    by_cases h : pre S (c :: l) = true
    · rw [spl_hit h]; simp
    · rw [spl_miss (by simpa using h)]
      exact spl_ne S l _ 0
  | c :: l, acc, k + 1 => spl_ne S l acc k
theorem cut_head {l : List Nat} : L2.cutS (mkS l) none (some 1) = mkS (l.take 1) := by
  refine ext_tl ?_
  show ((mkS l).cps.toList.drop (HT.sIx (mkS l).length 0 none)).take (HT.sIx (mkS l).length (mkS l).length (some 1) - HT.sIx (mkS l).length 0 none) = l.take 1
  rw [HT.sIx_none, show (some (1 : Int)) = some ((1 : Nat) : Int) from rfl, HT.sIx_nat, mkS_len]
  show ((mkS l).cps.toList.drop 0).take (min 1 l.length - 0) = _
  have e : (mkS l).cps.toList = l := rfl
  rw [e, List.drop_zero, Nat.sub_zero]
  cases l with
  | nil => rfl
  | cons c l => rw [Nat.min_eq_left (by simp)]
section
variable {k : Nat} {v : D} {S : Sto} {Q : D → Sto → Prop} {E : Nat → List D → Sto → Prop}
theorem str_eq {x y : Str} : cmpD .Eq (.str x) (.str y) S = some (x == y) := rfl
theorem mkS_beq {a b : List Nat} : (mkS a == mkS b) = decide (a = b) := by
  by_cases h : a = b
  · subst h; simp
  · rw [decide_eq_false h, beq_eq_false_iff_ne]
    exact fun z => h (mkS_inj z)
theorem w_runs_of {x : Str} {ca cb : Nat} {ws : List (List Nat)} (hws : ws = spl [32] 0 [] (tl x)) (hl : x.length + 2 ≤ sizeLine) (hw : ∀ w ∈ ws, w.length ≤ 640) (hch : ∀ w ∈ ws, ∀ c ∈ w, c < 256) (hca : ca < 256) (hcb : cb < 256) (hQ : Q (if areRunsD (mkS [ca]) (mkS [cb]) (rnD ws) = true then rnD ws else .non) S) : WR (CF (k + 2) f__law_runs_of [.str x, .str (mkS [ca, cb])] S) Q E := by
  have ln : ∀ (l : List Nat), l.length ≤ 640 → ∀ Q E (S : Sto), Q (.int (lwN l)) S → WR (CF (k + 1) f__law_number [.str (mkS l)] S) Q E := fun l hl Q E S h => w_lawnum (k := k) (x := mkS l) (by rw [mkS_len]; exact hl) h
  have ne : ws ≠ [] := by rw [hws]; exact spl_ne _ _ _ _
  have spcl : (" " : Str).length = 1 := by with_unfolding_all rfl
  have sp : Txt.split x " " = ws.map mkS := by rw [split_gen spc_tl (by simp) (by with_unfolding_all rfl), hws]
  have lw : ws.length ≤ sizeLine := by
    have h := PyProof.Rows.split_le x " "
    rw [sp, List.length_map] at h
    omega
  have spl : ∀ Q E (S : Sto), WR (splF [.str x, .str " "] S) Q E = Q (.loc S.length) (S ++ [.lst ((ws.map mkS).map D.str)]) := fun Q E S => by
    rw [e_splF (by rw [spcl]; rfl) hl, sp]
  have ar : areRunsD (mkS [ca]) (mkS [cb]) (rnD ws) = okA (mkS [ca]) (mkS [cb]) (ws.map fun w => encOR (rdR w)) := areRuns_okA (by simpa using ne)
  rw [ar] at hQ
  rw [cf_run (fd := fd__law_runs_of) rfl rfl]
  show Ws (run W (CF (k + 1)) G bd__law_runs_of [some (.str x), some (.str (mkS [ca, cb])), none, none, none] S) _
  unfold bd__law_runs_of
  generalize CF (k + 1) = C at *
  have z640 : 640 ≤ sizeLine := by decide
  refine s_seq (fun ρ S1 => S1 = S ++ [.lst []] ∧ ρ = [some (.str x), some (.str (mkS [ca, cb])), some (.loc S.length), none, none]) (by simp) ?_
  rintro ρ S1 ⟨rfl, rfl⟩
  obtain ⟨J, hJ⟩ : ∃ J : Env → Sto → Prop, ∀ ρ S2, J ρ S2 ↔ okA (mkS [ca]) (mkS [cb]) (ws.map fun w => encOR (rdR w)) = true ∧ ∃ K u3 u4, S2 = S ++ K ∧ ρ = [some (.str x), some (.str (mkS [ca, cb])), some (.fl (ws.map fun w => encOR (rdR w))), u3, u4] := ⟨_, fun _ _ => Iff.rfl⟩
  obtain ⟨I, hI⟩ : ∃ I : Nat → Env → Sto → Prop, ∀ i ρ S3, I i ρ S3 ↔ okA (mkS [ca]) (mkS [cb]) ((ws.take i).map fun w => encOR (rdR w)) = true ∧ ∃ u3 u4, S3 = S ++ [.lst ((ws.take i).map fun w => encOR (rdR w)), .lst (ws.map fun w => .str (mkS w))] ∧ ρ = [some (.str x), some (.str (mkS [ca, cb])), some (.loc S.length), u3, u4] := ⟨_, fun _ _ _ => Iff.rfl⟩
  have i0 : ∀ S, ixD (.str (mkS [ca, cb])) (.int 0) S = some (.str (mkS [ca])) := fun S => by
    show (if (mkS [ca, cb]).length ≤ sizeLine then (atI [ca, cb] 0).map fun c => D.str ⟨#[c]⟩ else none) = _
    rw [if_pos (by rw [mkS_len]; show 2 ≤ sizeLine; decide)]
    rfl
  have i1 : ∀ S, ixD (.str (mkS [ca, cb])) (.int 1) S = some (.str (mkS [cb])) := fun S => by
    show (if (mkS [ca, cb]).length ≤ sizeLine then (atI [ca, cb] 1).map fun c => D.str ⟨#[c]⟩ else none) = _
    rw [if_pos (by rw [mkS_len]; show 2 ≤ sizeLine; decide)]
    rfl
  have ltOR : ∀ (j : Nat) (o : Option (Nat × Nat)), D.lt j (encOR o) = true := fun j o => by
    cases o with
    | none => simp [encOR]
    | some r => simp [encOR]
  refine s_seq J ?_ ?_
  · rw [s_fz]
    simp [spl]
    have e0 : (SO.lst (ws.map (D.str ∘ mkS))) = SO.lst (ws.map fun w => D.str (mkS w)) := rfl
    rw [e0]
    refine ws_lst (l := ws.map fun w => .str (mkS w)) I ?_ ?_ ?_ ?_
    · intro i ρ S3 hz
      obtain ⟨_, u3, u4, rfl, _⟩ := (hI _ _ _).mp hz
      exact lst_at new_get1
    · intro i ρ S3 hi hz
      obtain ⟨hok, u3, u4, hS3, rfl⟩ := (hI _ _ _).mp hz
      rw [List.length_map] at hi
      have hlw := hw ws[i] (List.getElem_mem hi)
      have hcw := hch ws[i] (List.getElem_mem hi)
      have etk : ws.take (i + 1) = ws.take i ++ [ws[i]] := by rw [List.take_succ, List.getElem?_eq_getElem hi]; rfl
      have esp : ws = ws.take i ++ (ws[i] :: ws.drop (i + 1)) := by rw [← List.drop_eq_getElem_cons hi, List.take_append_drop]
      have fail : okA (mkS [ca]) (mkS [cb]) (((ws.take i).map fun w => encOR (rdR w)) ++ [encOR (rdR ws[i])]) = false → Q .non S := fun h => by
        have e : (ws.map fun w => encOR (rdR w)) = (((ws.take i).map fun w => encOR (rdR w)) ++ [encOR (rdR ws[i])]) ++ ((ws.drop (i + 1)).map fun w => encOR (rdR w)) := by
          conv => lhs; rw [esp]
          rw [List.map_append, List.map_cons, List.append_assoc]
          rfl
        rw [e, okA_false h] at hQ
        exact hQ
      have good : okA (mkS [ca]) (mkS [cb]) (((ws.take i).map fun w => encOR (rdR w)) ++ [encOR (rdR ws[i])]) = true → ∀ u3 u4, I (i + 1) [some (.str x), some (.str (mkS [ca, cb])), some (.loc S.length), u3, u4] (S ++ [.lst (((ws.take i).map fun w => encOR (rdR w)) ++ [encOR (rdR ws[i])]), .lst (ws.map fun w => .str (mkS w))]) := fun h u3 u4 => by
        refine (hI _ _ _).mpr ⟨?_, u3, u4, ?_, rfl⟩
        · rw [etk, List.map_append]; exact h
        · rw [etk, List.map_append]; rfl
      rw [okA_snoc, hok, Bool.true_and] at fail good
      have gf : S3[S.length]? = some (.lst ((ws.take i).map fun w => encOR (rdR w))) := by rw [hS3]; exact new_get
      have sf : ∀ z, S3.set S.length z = S ++ [z, .lst (ws.map fun w => .str (mkS w))] := fun z => by rw [hS3, new_set]
      have ex : ∀ b, cutS S b S3 = S ∨ cutS S b S3 = S3 := fun b => by
        cases b with
        | true => left; rw [hS3, cut_app]
        | false => right; rw [cut_false]
      have cutT : cutS S true S3 = S := by rw [hS3, cut_app]
      have lfd : ((ws.take i).map fun w => encOR (rdR w)).length < sizeLine := by
        rw [List.length_map, List.length_take]
        omega
      obtain ⟨w, hwe⟩ : ∃ w, w = ws[i] := ⟨_, rfl⟩
      rw [List.getElem_map]
      rw [← hwe] at hlw hcw fail good ⊢
      clear esp etk hwe
      obtain ⟨fs, hfs⟩ : ∃ fs, fs = (ws.take i).map fun w => encOR (rdR w) := ⟨_, rfl⟩
      rw [← hfs] at fail good gf lfd
      have hfl : ∀ e ∈ fs, ∃ o, e = encOR o := fun e he => by
        rw [hfs] at he
        obtain ⟨w, _, rfl⟩ := List.mem_map.mp he
        exact ⟨_, rfl⟩
      have hfr : ∀ e ∈ fs, isRunD (mkS [ca]) (mkS [cb]) e = true := fun e he => by
        rw [hfs] at he
        unfold okA at hok
        rw [Bool.and_eq_true] at hok
        exact List.all_eq_true.mp hok.1 e he
      clear hfs hS3 hz hok
      have sl1 : ∀ S, slD (.str (mkS w)) (some 1) none S = .ok (.str (mkS (w.drop 1))) S := fun S => by
        show (if (mkS w).length ≤ sizeLine then R.ok (D.str (L2.cutS (mkS w) (some 1) none)) S else .bad) = _
        rw [if_pos (by rw [mkS_len]; omega)]
        cases w with
        | nil => rfl
        | cons c w => rw [cut_tail]; rfl
      have sl2 : ∀ S, slD (.str (mkS w)) none (some 1) S = .ok (.str (mkS (w.take 1))) S := fun S => by
        show (if (mkS w).length ≤ sizeLine then R.ok (D.str (L2.cutS (mkS w) none (some 1))) S else .bad) = _
        rw [if_pos (by rw [mkS_len]; omega), cut_head]
      have ni : ∀ S, cmpD .NotIn (.str (mkS (w.take 1))) (.fl [.str (mkS [ca]), .str (mkS [cb])]) S = some (!decide (w.take 1 = [ca] ∨ w.take 1 = [cb])) := fun S => by
        show (inD (.str (mkS (w.take 1))) (.fl [.str (mkS [ca]), .str (mkS [cb])]) S).map (!·) = _
        rw [in_cl (n := 0) (m := 0) (b := decide (w.take 1 = [ca] ∨ w.take 1 = [cb])) (show cl 0 (.str (mkS (w.take 1))) = true from strOk_T (x := mkS (w.take 1)) fun c hc => hcw c (List.mem_of_mem_take hc)) (fun d hd => by
          simp only [List.mem_cons, List.not_mem_nil, or_false] at hd
          rcases hd with rfl | rfl
          · exact strOk_T (x := mkS [ca]) fun c hc => by rw [tl_mkS, List.mem_singleton] at hc; omega
          · exact strOk_T (x := mkS [cb]) fun c hc => by rw [tl_mkS, List.mem_singleton] at hc; omega) (by decide) (by decide) (by
            rw [decide_eq_true_iff]
            simp only [List.mem_cons, List.not_mem_nil, or_false, D.str.injEq]
            constructor
            · rintro (h | h) <;> rw [h] <;> simp
            · rintro (h | h)
              · exact .inl (mkS_inj h)
              · exact .inr (mkS_inj h))]
        rfl
      have nn : cmpD .NotEq (.loc S.length) (.fl []) S3 = some (!fs.isEmpty) := ne_nil (lst_at gf)
      have lln : ∀ (j : Nat), lstAt S3 S.length = some fs := fun _ => lst_at gf
      refine s_seq (fun ρ S4 => S4 = S3 ∧ ρ = [some (.str x), some (.str (mkS [ca, cb])), some (.loc S.length), some (.str (mkS w)), some (.int (lwN (w.drop 1)))]) ?_ ?_
      · simp [sl1]
        refine ln _ (by rw [List.length_tail]; omega) _ _ _ ?_
        simp
      rintro ρ S4 ⟨rfl, rfl⟩
      refine s_seq (fun ρ S5 => S5 = S4 ∧ ρ = [some (.str x), some (.str (mkS [ca, cb])), some (.loc S.length), some (.str (mkS w)), some (.int (lwN (w.drop 1)))] ∧ ∃ c t n, w = c :: t ∧ rdN t = some n ∧ (isRunD (mkS [ca]) (mkS [cb]) (encOR (rdR w)) && (match fs.getLast? with
        | none => true
        | some e => fstS e != fstS (encOR (rdR w)))) = true) ?_ ?_
      · cases w with
        | nil =>
          have h0 := fail (by simp [rdR, encOR, isRunD])
          simp [sl2, i0, i1] at ni ⊢
          simp [ni, cutT]
          exact h0
        | cons c t =>
          have ix : ∀ S, ixD (.str (mkS (c :: t))) (.int 0) S = some (.str (mkS [c])) := fun S => by
            show (if (mkS (c :: t)).length ≤ sizeLine then (atI (c :: t) 0).map fun c => D.str ⟨#[c]⟩ else none) = _
            have ha : atI (c :: t) ((0 : Nat) : Int) = some c := atI_nat rfl
            rw [if_pos (by rw [mkS_len]; omega), show (0 : Int) = ((0 : Nat) : Int) from rfl, ha]
            rfl
          have e1 : rdR (c :: t) = (rdN t).map fun n => (c, n) := rfl
          have e2 : (c :: t).take 1 = [c] := rfl
          have e3 : (c :: t).drop 1 = t := rfl
          rw [e2] at ni sl2
          rw [e3]
          by_cases h1 : c = ca ∨ c = cb
          · have ni2 : ∀ S, cmpD .NotIn (.str (mkS [c])) (.fl [.str (mkS [ca]), .str (mkS [cb])]) S = some false := fun S => by
              rw [ni]
              have : ([c] = [ca] ∨ [c] = [cb]) := by
                rcases h1 with h | h <;> rw [h] <;> simp
              rw [decide_eq_true this]
              rfl
            have sgn : ((mkS [c] == mkS [ca]) || (mkS [c] == mkS [cb])) = true := by
              rw [mkS_beq, mkS_beq, Bool.or_eq_true, decide_eq_true_iff, decide_eq_true_iff]
              rcases h1 with h | h <;> rw [h] <;> simp
            by_cases h2 : lwN t < 1
            · have h0 := fail (by
                have : isRunD (mkS [ca]) (mkS [cb]) (encOR (rdR (c :: t))) = false := by
                  rw [e1]
                  cases h3 : rdN t with
                  | none => rfl
                  | some n =>
                    have h4 : lwN t = n := by unfold lwN; rw [h3]
                    show (_ && decide ((1 : Int) ≤ (n : Nat))) = false
                    rw [decide_eq_false (by omega), Bool.and_false]
                rw [this]
                rfl)
              simp [sl2, i0, i1, ni2, h2, cutT]
              exact h0
            · obtain ⟨n, hn⟩ : ∃ n, rdN t = some n := by
                cases h3 : rdN t with
                | none =>
                  have h4 : lwN t = -1 := by unfold lwN; rw [h3]
                  omega
                | some n => exact ⟨n, rfl⟩
              have h4 : lwN t = n := by unfold lwN; rw [hn]
              have e4 : rdR (c :: t) = some (c, n) := by rw [e1, hn]; rfl
              have r1 : isRunD (mkS [ca]) (mkS [cb]) (encOR (rdR (c :: t))) = true := by
                rw [e4]
                show (((mkS [c] == mkS [ca]) || (mkS [c] == mkS [cb])) && decide ((1 : Int) ≤ (n : Nat))) = true
                rw [sgn, decide_eq_true (by omega)]
                rfl
              have f1 : fstS (encOR (rdR (c :: t))) = mkS [c] := by rw [e4]; rfl
              rw [r1, f1, Bool.true_and] at fail ⊢
              rcases List.eq_nil_or_concat fs with rfl | ⟨fs, e, rfl⟩
              · simp [sl2, i0, i1, ni2, h2, nn]
                exact ⟨c, t, ⟨rfl, rfl⟩, n, hn⟩
              · rw [List.concat_eq_append] at *
                have hE := hfr e (List.mem_append_right _ List.mem_cons_self)
                obtain ⟨d, m, rfl, hd⟩ := isRunD_str hE
                have ixl : ixL (some (fs ++ [D.tup [D.str d, m]])) (dicAt S4 S.length) (dnAt S4 S.length) (D.int (-1)) = some (.tup [.str d, m]) := by
                  exact atI_lastN
                rw [List.getLast?_append, List.getLast?_singleton] at fail ⊢
                simp only [Option.some_or, hd] at fail ⊢
                by_cases h5 : d = mkS [c]
                · have h0 := fail (by rw [h5]; simp)
                  subst h5
                  simp [sl2, i0, i1, ni2, h2, nn, ix, lst_at gf, ixl, str_eq, cutT]
                  exact h0
                · have h6 : (d == mkS [c]) = false := by rw [beq_eq_false_iff_ne]; exact h5
                  simp [sl2, i0, i1, ni2, h2, nn, ix, lst_at gf, ixl, str_eq, h6, h5]
                  exact ⟨c, t, ⟨rfl, rfl⟩, n, hn⟩
          · have ni2 : ∀ S, cmpD .NotIn (.str (mkS [c])) (.fl [.str (mkS [ca]), .str (mkS [cb])]) S = some true := fun S => by
              rw [ni]
              have : ¬ ([c] = [ca] ∨ [c] = [cb]) := by
                rintro (h | h)
                · injection h with h; exact h1 (.inl h)
                · injection h with h; exact h1 (.inr h)
              rw [decide_eq_false this]
              rfl
            have h0 := fail (by
              have : isRunD (mkS [ca]) (mkS [cb]) (encOR (rdR (c :: t))) = false := by
                rw [e1]
                cases h3 : rdN t with
                | none => rfl
                | some n =>
                  show (((mkS [c] == mkS [ca]) || (mkS [c] == mkS [cb])) && _) = false
                  have : ((mkS [c] == mkS [ca]) || (mkS [c] == mkS [cb])) = false := by
                    rw [mkS_beq, mkS_beq, Bool.or_eq_false_iff, decide_eq_false_iff_not, decide_eq_false_iff_not]
                    constructor
                    · intro h; injection h with h; exact h1 (.inl h)
                    · intro h; injection h with h; exact h1 (.inr h)
                  rw [this]
                  rfl
              rw [this]
              rfl)
            simp [sl2, i0, i1, ni2, cutT]
            exact h0
      rintro ρ S5 ⟨rfl, rfl, c, t, n, rfl, hn, hg⟩
      have ix : ∀ S, ixD (.str (mkS (c :: t))) (.int 0) S = some (.str (mkS [c])) := fun S => by
        show (if (mkS (c :: t)).length ≤ sizeLine then (atI (c :: t) 0).map fun c => D.str ⟨#[c]⟩ else none) = _
        have ha : atI (c :: t) ((0 : Nat) : Int) = some c := atI_nat rfl
        rw [if_pos (by rw [mkS_len]; omega), show (0 : Int) = ((0 : Nat) : Int) from rfl, ha]
        rfl
      have h4 : lwN t = n := by unfold lwN; rw [hn]
      have e4 : encOR (rdR (c :: t)) = .tup [.str (mkS [c]), .int (n : Nat)] := by
        have e1 : rdR (c :: t) = (rdN t).map fun n => (c, n) := rfl
        rw [e1, hn]
        rfl
      have g2 := good hg
      rw [e4] at g2
      have e3 : (c :: t).drop 1 = t := rfl
      rw [e3, h4]
      simp [ix, isLst_at gf]
      rw [mt_append gf, sf]
      exact ⟨lfd, g2 _ _⟩
    · intro ρ S3 hz
      rw [List.length_map] at hz
      obtain ⟨hok, u3, u4, rfl, rfl⟩ := (hI _ _ _).mp hz
      rw [List.take_length] at hok ⊢
      refine fz_any (J0 := [.lst []]) (m := S.length) (ds := ws.map fun w => encOR (rdR w)) rfl new_get (Nat.le_refl _) fun G1 => ?_
      exact (hJ _ _).mpr ⟨hok, _, _, _, rfl, rfl⟩
    · refine (hI _ _ _).mpr ⟨rfl, _, _, ?_, rfl⟩
      rfl
  intro ρ S2 hz
  obtain ⟨hok, K, u3, u4, rfl, rfl⟩ := (hJ _ _).mp hz
  rw [hok, if_pos rfl] at hQ
  have lt : ∀ j, ltL j (ws.map fun w => encOR (rdR w)) = true := fun j => ltL_map' fun w => ltOR _ _
  have tp : ∀ S, biD .tuple [.fl (ws.map fun w => encOR (rdR w))] S = .ok (.tup (ws.map fun w => encOR (rdR w))) S := fun S => rfl
  have hQ2 : Q (.tup (ws.map fun w => encOR (rdR w))) S := hQ
  generalize (ws.map fun w => encOR (rdR w)) = V at *
  simp [tp, lt]
  exact hQ2
end
end CC
namespace CC
open PySem PySem.Spec PyProof.Rows L2 TL
section
variable {k : Nat} {v : D} {S : Sto} {Q : D → Sto → Prop} {E : Nat → List D → Sto → Prop}
theorem ew_mk : ("EW" : Str) = mkS [69, 87] := by with_unfolding_all rfl
theorem ns_mk : ("NS" : Str) = mkS [78, 83] := by with_unfolding_all rfl
theorem e_mk : ("E" : Str) = mkS [69] := by with_unfolding_all rfl
theorem w_mk' : ("W" : Str) = mkS [87] := by with_unfolding_all rfl
theorem n_mk : ("N" : Str) = mkS [78] := by with_unfolding_all rfl
theorem s_mk : ("S" : Str) = mkS [83] := by with_unfolding_all rfl
structure TxO (x : Str) : Prop where
  len : x.length + 2 ≤ sizeLine
  city : ∀ p ∈ spl [32, 124, 32] 0 [] (tl x), p.length + 2 ≤ sizeLine ∧ ∀ w ∈ spl [32] 0 [] p, w.length ≤ 640
  drive : Short 640 (tl x)
  chr : ∀ c ∈ tl x, c < 256
theorem rdC_eq (l : List Nat) : rdC l = .tup ((spl [32, 124, 32] 0 [] l).map fun p => rnD (spl [32] 0 [] p)) := rfl
theorem ltOR2 (j : Nat) (o : Option (Nat × Nat)) : D.lt j (encOR o) = true := by
  cases o with
  | none => simp [encOR]
  | some r => simp [encOR]
theorem lt_rnD {j : Nat} {ws : List (List Nat)} : D.lt j (rnD ws) = true := by
  unfold rnD
  rw [lt_tup]
  exact ltL_map' fun w => ltOR2 _ _
theorem w_read0 {x : Str} (h : TxO x) (hQ : Q (if isCityD (rdC (tl x)) = true then rdC (tl x) else .non) S) : WR (CF (k + 3) f__law_read [.int 0, .str x] S) Q E := by
  obtain ⟨ps, hps⟩ : ∃ ps, ps = spl [32, 124, 32] 0 [] (tl x) := ⟨_, rfl⟩
  have barl : (" | " : Str).length = 3 := by with_unfolding_all rfl
  have sb : Txt.split x " | " = ps.map mkS := by rw [split_gen bar_tl (by simp) (by with_unfolding_all rfl), hps]
  have sc : ∀ Q E (S : Sto), WR (splF [.str x, .str " | "] S) Q E = Q (.loc S.length) (S ++ [.lst ((ps.map mkS).map D.str)]) := fun Q E S => by
    rw [e_splF (by rw [barl]; rfl) h.len, sb]
  have ro : ∀ p ∈ ps, ∀ ca cb : Nat, ca < 256 → cb < 256 → ∀ Q E (S : Sto), Q (if areRunsD (mkS [ca]) (mkS [cb]) (rnD (spl [32] 0 [] p)) = true then rnD (spl [32] 0 [] p) else .non) S → WR (CF (k + 2) f__law_runs_of [.str (mkS p), .str (mkS [ca, cb])] S) Q E := fun p hp ca cb hca hcb Q E S hq => by
    have := h.city p (hps ▸ hp)
    have hcp : ∀ w ∈ spl [32] 0 [] p, ∀ c ∈ w, c < 256 := fun w hw c hc => by
      obtain ⟨a, b, e⟩ := spl_part_of _ _ p (hps ▸ hp)
      obtain ⟨a2, b2, e2⟩ := spl_part_of _ _ w hw
      refine h.chr c ?_
      rw [e, e2]
      simp [hc]
    exact w_runs_of (k := k) (x := mkS p) rfl (by rw [mkS_len]; exact this.1) this.2 hcp hca hcb hq
  rw [rdC_eq, ← hps] at hQ
  rw [cf_run (fd := fd__law_read) rfl rfl]
  show Ws (run W (CF (k + 2)) G bd__law_read [some (.int 0), some (.str x), none, none, none, none, none] S) _
  unfold bd__law_read
  generalize CF (k + 2) = C at *
  refine s_seq (fun ρ S1 => S1 = S ∧ ρ = [some (.int 0), some (.str x), none, none, none, none, none]) ?_ ?_
  · have hi : ∀ S, isinst (.str x) (.ty "str") S = some true := fun S => by with_unfolding_all rfl
    simp [hi]
  rintro ρ S1 ⟨rfl, rfl⟩
  refine s_seq (fun _ _ => False) ?_ (fun _ _ z => z.elim)
  refine s_ifT rfl ?_
  refine s_seq (fun ρ S2 => S2 = S1 ++ [.lst ((ps.map mkS).map D.str)] ∧ ρ = [some (.int 0), some (.str x), some (.loc S1.length), none, none, none, none]) ?_ ?_
  · simp [sc]
  rintro ρ S2 ⟨rfl, rfl⟩
  by_cases hl : ps.length = 2
  · obtain ⟨p, q, rfl⟩ : ∃ p q, ps = [p, q] := by
      match ps, hl with
      | [p, q], _ => exact ⟨p, q, rfl⟩
    have rp := ro p (by simp)
    have rq := ro q (by simp)
    have e2 : isCityD (.tup ([p, q].map fun p => rnD (spl [32] 0 [] p))) = (areRunsD (mkS [69]) (mkS [87]) (rnD (spl [32] 0 [] p)) && areRunsD (mkS [78]) (mkS [83]) (rnD (spl [32] 0 [] q))) := by
      rw [← e_mk, ← w_mk', ← n_mk, ← s_mk]
      rfl
    rw [e2] at hQ
    have e3 : D.tup ([p, q].map fun p => rnD (spl [32] 0 [] p)) = .tup [rnD (spl [32] 0 [] p), rnD (spl [32] 0 [] q)] := rfl
    rw [e3] at hQ
    obtain ⟨T, hT⟩ : ∃ T, T = S1 ++ [SO.lst (([p, q].map mkS).map D.str)] := ⟨_, rfl⟩
    have gT : lstAt T S1.length = some [.str (mkS p), .str (mkS q)] := by rw [hT]; exact lst_at new_get
    have cT : cutS S1 true T = S1 := by rw [hT, cut_app]
    have tl0 : D.lt T.length (.loc S1.length) = true := by rw [hT]; simp
    rw [← hT]
    clear hT
    have ltA : ∀ j, D.lt j (rnD (spl [32] 0 [] p)) = true := fun j => lt_rnD
    have ltB : ∀ j, D.lt j (rnD (spl [32] 0 [] q)) = true := fun j => lt_rnD
    have n0 : isNon .non = true := rfl
    have nn1 : isNon (rnD (spl [32] 0 [] p)) = false := rfl
    have nn2 : isNon (rnD (spl [32] 0 [] q)) = false := rfl
    generalize rnD (spl [32] 0 [] p) = A at *
    generalize rnD (spl [32] 0 [] q) = B at *
    refine s_seq (fun ρ S2 => S2 = T ∧ ρ = [some (.int 0), some (.str x), some (.loc S1.length), none, none, none, none]) ?_ ?_
    · simp [gT, lenL]
    rintro ρ S2 ⟨rfl, rfl⟩
    refine s_seq (fun ρ S3 => S3 = S2 ∧ ρ = [some (.int 0), some (.str x), some (.loc S1.length), some (.tup [if areRunsD (mkS [69]) (mkS [87]) A = true then A else .non, if areRunsD (mkS [78]) (mkS [83]) B = true then B else .non]), none, none, none]) ?_ ?_
    · rw [s_fz]
      simp [gT, ixL]
      have a0 : atI [D.str (mkS p), D.str (mkS q)] 0 = some (.str (mkS p)) := rfl
      have a1 : atI [D.str (mkS p), D.str (mkS q)] 1 = some (.str (mkS q)) := rfl
      simp [a0, a1, ew_mk, ns_mk]
      refine rp 69 87 (by decide) (by decide) _ _ _ ?_
      simp [gT, a1, ns_mk]
      refine rq 78 83 (by decide) (by decide) _ _ _ ?_
      unfold fzE
      simp [frzD]
    rintro ρ S3 ⟨rfl, rfl⟩
    cases hA : areRunsD (mkS [69]) (mkS [87]) A with
    | false =>
      rw [hA] at hQ
      simp [n0, cT]
      exact hQ
    | true =>
      cases hB : areRunsD (mkS [78]) (mkS [83]) B with
      | false =>
        rw [hA, hB] at hQ
        simp [n0, nn1, cT]
        exact hQ
      | true =>
        rw [hA, hB] at hQ
        simp [n0, nn1, nn2, ltA, ltB, cT]
        exact hQ
  · have e2 : isCityD (.tup (ps.map fun p => rnD (spl [32] 0 [] p))) = false := isCityD_len (by rw [List.length_map]; exact hl)
    rw [e2] at hQ
    have hl2 : ¬ ((ps.length : Nat) : Int) = 2 := by omega
    refine s_seq (fun _ _ => False) ?_ (fun _ _ z => z.elim)
    simp [lenL, hl2]
    exact hQ
theorem w_read1 {x : Str} (h : TxO x) (hQ : Q (if none ∈ rdD (tl x) then .non else .fl ((rdD (tl x)).map encOP)) S) : WR (CF (k + 3) f__law_read [.int 1, .str x] S) Q E := by
  obtain ⟨ws, hws⟩ : ∃ ws, ws = spl [32] 0 [] (tl x) := ⟨_, rfl⟩
  have spcl : (" " : Str).length = 1 := by with_unfolding_all rfl
  have coml : ("," : Str).length = 1 := by with_unfolding_all rfl
  have sp : Txt.split x " " = ws.map mkS := by rw [split_gen spc_tl (by simp) (by with_unfolding_all rfl), hws]
  have lw : ws.length ≤ sizeLine := by
    have h := PyProof.Rows.split_le x " "
    have h2 := h
    rw [sp, List.length_map] at h
    have := TxO.len ‹TxO x›
    omega
  have spl1 : ∀ Q E (S : Sto), WR (splF [.str x, .str " "] S) Q E = Q (.loc S.length) (S ++ [.lst ((ws.map mkS).map D.str)]) := fun Q E S => by
    rw [e_splF (by rw [spcl]; rfl) h.len, sp]
  have ln : ∀ (l : List Nat), l.length ≤ 640 → ∀ Q E (S : Sto), Q (.int (lwN l)) S → WR (CF (k + 2) f__law_number [.str (mkS l)] S) Q E := fun l hl Q E S h => w_lawnum (k := k + 1) (x := mkS l) (by rw [mkS_len]; exact hl) h
  have sc : ∀ w : List Nat, Txt.split (mkS w) "," = (spl [44] 0 [] w).map mkS := fun w => split_gen (x := mkS w) com_tl (by simp) (by with_unfolding_all rfl)
  have dr : ∀ w ∈ ws, w.length + 2 ≤ sizeLine ∧ ∀ p ∈ spl [44] 0 [] w, p.length ≤ 640 := fun w hw => h.drive w (hws ▸ hw)
  have lc : ∀ w ∈ ws, (spl [44] 0 [] w).length ≤ sizeLine := fun w hw => by
    have h1 := PyProof.Rows.split_le (mkS w) ","
    have h2 := (dr w hw).1
    rw [sc, List.length_map, mkS_len] at h1
    omega
  have hD : rdD (tl x) = ws.map rdP := by rw [hws]; rfl
  rw [hD] at hQ
  clear hws hD
  rw [cf_run (fd := fd__law_read) rfl rfl]
  show Ws (run W (CF (k + 2)) G bd__law_read [some (.int 1), some (.str x), none, none, none, none, none] S) _
  unfold bd__law_read
  generalize CF (k + 2) = C at *
  refine s_seq (fun ρ S1 => S1 = S ∧ ρ = [some (.int 1), some (.str x), none, none, none, none, none]) ?_ ?_
  · have hi : ∀ S, isinst (.str x) (.ty "str") S = some true := fun S => by with_unfolding_all rfl
    simp [hi]
  rintro ρ S1 ⟨rfl, rfl⟩
  refine s_seq (fun ρ S2 => S2 = S1 ∧ ρ = [some (.int 1), some (.str x), none, none, none, none, none]) ?_ ?_
  · refine s_ifF rfl ?_
    exact ⟨rfl, rfl⟩
  rintro ρ S2 ⟨rfl, rfl⟩
  refine s_seq (fun ρ S3 => S3 = S2 ++ [.lst []] ∧ ρ = [some (.int 1), some (.str x), none, some (.loc S2.length), none, none, none]) (by simp) ?_
  rintro ρ S3 ⟨rfl, rfl⟩
  obtain ⟨J, hJ⟩ : ∃ J : Env → Sto → Prop, ∀ ρ S3, J ρ S3 ↔ none ∉ ws.map rdP ∧ ∃ K u2 u4 u5 u6, S3 = S2 ++ K ∧ ρ = [some (.int 1), some (.str x), u2, some (.fl (ws.map fun w => encOP (rdP w))), u4, u5, u6] := ⟨_, fun _ _ => Iff.rfl⟩
  obtain ⟨I, hI⟩ : ∃ I : Nat → Env → Sto → Prop, ∀ i ρ S3, I i ρ S3 ↔ none ∉ (ws.take i).map rdP ∧ ∃ G u2 u4 u5 u6, S3 = S2 ++ (.lst ((ws.take i).map fun w => encOP (rdP w)) :: .lst (ws.map fun w => .str (mkS w)) :: G) ∧ ρ = [some (.int 1), some (.str x), u2, some (.loc S2.length), u4, u5, u6] := ⟨_, fun _ _ _ => Iff.rfl⟩
  refine s_seq J ?_ ?_
  · rw [s_fz]
    simp [spl1]
    have e0 : (SO.lst (ws.map (D.str ∘ mkS))) = SO.lst (ws.map fun w => D.str (mkS w)) := rfl
    rw [e0]
    refine ws_lst (l := ws.map fun w => .str (mkS w)) I ?_ ?_ ?_ ?_
    · intro i ρ S3 hz
      obtain ⟨_, G, u2, u4, u5, u6, rfl, _⟩ := (hI _ _ _).mp hz
      exact lst_at new_get1
    · intro i ρ S3 hi hz
      obtain ⟨hok, G, u2, u4, u5, u6, hS3, rfl⟩ := (hI _ _ _).mp hz
      rw [List.length_map] at hi
      have hmem := List.getElem_mem hi
      have etk : ws.take (i + 1) = ws.take i ++ [ws[i]] := by rw [List.take_succ, List.getElem?_eq_getElem hi]; rfl
      have fail : rdP ws[i] = none → Q .non S2 := fun e => by
        rw [if_pos (List.mem_map.mpr ⟨_, hmem, e⟩)] at hQ
        exact hQ
      have good : ∀ p, rdP ws[i] = some p → ∀ K u2 u4 u5 u6, I (i + 1) [some (.int 1), some (.str x), u2, some (.loc S2.length), u4, u5, u6] (S2 ++ (.lst (((ws.take i).map fun w => encOP (rdP w)) ++ [encOP (some p)]) :: .lst (ws.map fun w => .str (mkS w)) :: K)) := fun p e K u2 u4 u5 u6 => by
        refine (hI _ _ _).mpr ⟨?_, K, u2, u4, u5, u6, ?_, rfl⟩
        · rw [etk, List.map_append, List.mem_append]
          rintro (z | z)
          · exact hok z
          · simp [e] at z
        · rw [etk, List.map_append, ← e]; rfl
      have gf : ∀ K, (S3 ++ K)[S2.length]? = some (.lst ((ws.take i).map fun w => encOP (rdP w))) := fun K => by
        rw [hS3, List.append_assoc]; exact new_get
      have sf : ∀ z K, (S3 ++ K).set S2.length z = S2 ++ (z :: .lst (ws.map fun w => .str (mkS w)) :: (G ++ K)) := fun z K => by
        rw [hS3, List.append_assoc]; exact new_set
      have cutT : ∀ K, cutS S2 true (S3 ++ K) = S2 := fun K => by rw [hS3, List.append_assoc, cut_app]
      have lfd : ((ws.take i).map fun w => encOP (rdP w)).length < sizeLine := by
        rw [List.length_map, List.length_take]
        omega
      obtain ⟨w, hwe⟩ : ∃ w, w = ws[i] := ⟨_, rfl⟩
      rw [List.getElem_map]
      rw [← hwe] at hmem fail good ⊢
      have hps := (dr w hmem).2
      have lps := lc w hmem
      have hwl := (dr w hmem).1
      clear etk hwe hS3 hz hok
      generalize ((ws.take i).map fun w => encOP (rdP w)) = fs at *
      obtain ⟨ps, hpe⟩ : ∃ ps, ps = spl [44] 0 [] w := ⟨_, rfl⟩
      have sp2 : ∀ Q E (S : Sto), WR (splF [.str (mkS w), .str ","] S) Q E = Q (.loc S.length) (S ++ [.lst ((ps.map mkS).map D.str)]) := fun Q E S => by
        rw [e_splF (by rw [coml]; rfl) (by rw [mkS_len]; exact hwl), sc, hpe]
      have hP : rdP w = match ps.map rdN with
        | [some x, some y] => some (x, y)
        | _ => none := by rw [hpe]; rfl
      rw [← hpe] at hps lps
      obtain ⟨P1, hP1⟩ : ∃ P : Env → Sto → Prop, ∀ ρ S4, P ρ S4 ↔ ∃ K u6, S4 = S3 ++ K ∧ ρ = [some (.int 1), some (.str x), u2, some (.loc S2.length), some (.str (mkS w)), some (.fl (ps.map fun p => .int (lwN p))), u6] := ⟨_, fun _ _ => Iff.rfl⟩
      refine s_seq P1 ?_ ?_
      · rw [s_fz]
        simp [sp2]
        obtain ⟨T, hT⟩ : ∃ T, T = S3 ++ [SO.lst (ps.map (D.str ∘ mkS))] := ⟨_, rfl⟩
        have gT : lstAt T S3.length = some (ps.map fun p => D.str (mkS p)) := by
          rw [hT]
          unfold lstAt
          rw [List.getElem?_append_right (Nat.le_refl _), Nat.sub_self]
          rfl
        rw [← hT]
        refine lcS_m (m := ps) (enc := fun p => D.str (mkS p)) (walk_lst gT) (fun p => .int (lwN p)) lps (fun p hp => ?_) ?_
        · simp
          refine ln p (hps p hp) _ _ _ ?_
          simp
        · rw [hT]
          show Ws (fzE 5 _ _ _) _
          rw [List.append_assoc]
          refine fz_any0 rfl (ds := ps.map fun p => .int (lwN p)) ?_ (by simp) fun G1 => ?_
          · rw [← List.append_assoc, List.getElem?_append_right (Nat.le_refl _), Nat.sub_self]
            rfl
          · exact (hP1 _ _).mpr ⟨G1, _, rfl, rfl⟩
      intro ρ S4 hz
      obtain ⟨K, v6, rfl, rfl⟩ := (hP1 _ _).mp hz
      clear hz hP1 P1 sp2
      by_cases hl2 : ps.length = 2
      · obtain ⟨p, q, rfl⟩ : ∃ p q, ps = [p, q] := by
          match ps, hl2 with
          | [p, q], _ => exact ⟨p, q, rfl⟩
        have mn : ∀ S, biD .min [.fl ([p, q].map fun p => D.int (lwN p))] S = .ok (.int (if lwN q < lwN p then lwN q else lwN p)) S := fun S => rfl
        have lne : ∀ S, lenD (.fl ([p, q].map fun p => D.int (lwN p))) S = some 2 := fun S => rfl
        have tp : ∀ S, biD .tuple [.fl ([p, q].map fun p => D.int (lwN p))] S = .ok (.tup [.int (lwN p), .int (lwN q)]) S := fun S => rfl
        have lge : ∀ p, rdN p = none → lwN p = -1 := fun p h => by unfold lwN; rw [h]
        have lgs : ∀ p n, rdN p = some n → lwN p = n := fun p n h => by unfold lwN; rw [h]
        generalize D.fl ([p, q].map fun p => D.int (lwN p)) = V at *
        cases hp : rdN p with
        | none =>
          have e : rdP w = none := by rw [hP]; simp [hp]
          have hq := fail e
          have hl := lge p hp
          have hm : (if lwN q < lwN p then lwN q else lwN p) < 0 := by split <;> omega
          refine s_seq (fun _ _ => False) ?_ (fun _ _ z => z.elim)
          simp [lne, mn, hm, cutT]
          exact hq
        | some a =>
          cases hq : rdN q with
          | none =>
            have e : rdP w = none := by rw [hP]; simp [hp, hq]
            have hqq := fail e
            have hl := lge q hq
            have hl2 := lgs p a hp
            have hm : (if lwN q < lwN p then lwN q else lwN p) < 0 := by split <;> omega
            refine s_seq (fun _ _ => False) ?_ (fun _ _ z => z.elim)
            simp [lne, mn, hm, cutT]
            exact hqq
          | some b =>
            have e : rdP w = some (a, b) := by rw [hP]; simp [hp, hq]
            have hl := lgs q b hq
            have hl2 := lgs p a hp
            have hm : ¬ (if lwN q < lwN p then lwN q else lwN p) < 0 := by split <;> omega
            refine s_seq (fun ρ S5 => S5 = S3 ++ K ∧ ρ = [some (.int 1), some (.str x), u2, some (.loc S2.length), some (.str (mkS w)), some V, v6]) ?_ ?_
            · simp [lne, mn, hm]
            rintro ρ S5 ⟨rfl, rfl⟩
            have g2 := good _ e (G ++ K)
            have ee : encOP (some (a, b)) = .tup [.int (lwN p), .int (lwN q)] := by rw [hl, hl2]; rfl
            rw [ee] at g2
            simp [isLst_at (gf K), tp]
            rw [mt_append (gf K), sf]
            exact ⟨lfd, g2 _ _ _ _⟩
      · have e : rdP w = none := by
          rw [hP]
          match ps, hl2 with
          | [], _ => rfl
          | [_], _ => simp
          | _ :: _ :: _ :: _, _ => simp
          | [_, _], h => exact absurd rfl h
        have hq := fail e
        have lne : ∀ S, lenD (.fl (ps.map fun p => D.int (lwN p))) S = some ps.length := fun S => by
          show some (ps.map fun p => D.int (lwN p)).length = _
          rw [List.length_map]
        have hl3 : ¬ ((ps.length : Nat) : Int) = 2 := by omega
        generalize D.fl (ps.map fun p => D.int (lwN p)) = V at *
        refine s_seq (fun _ _ => False) ?_ (fun _ _ z => z.elim)
        simp [lne, hl3, cutT]
        exact hq
    · intro ρ S3 hz
      rw [List.length_map] at hz
      obtain ⟨hok, G, u2, u4, u5, u6, rfl, rfl⟩ := (hI _ _ _).mp hz
      rw [List.take_length] at hok ⊢
      refine fz_any (J0 := [.lst []]) (m := S2.length) (ds := ws.map fun w => encOP (rdP w)) rfl new_get (Nat.le_refl _) fun G1 => ?_
      exact (hJ _ _).mpr ⟨hok, _, _, _, _, _, rfl, rfl⟩
    · refine (hI _ _ _).mpr ⟨by simp, [], _, _, _, _, ?_, rfl⟩
      rfl
  intro ρ S3 hz
  obtain ⟨hok, K, u2, u4, u5, u6, rfl, rfl⟩ := (hJ _ _).mp hz
  rw [if_neg hok] at hQ
  have lt : ∀ j, ltL j (ws.map fun w => encOP (rdP w)) = true := fun j => ltL_map' fun w => by
    cases rdP w with
    | none => simp [encOP]
    | some r => simp [encOP]
  rw [List.map_map] at hQ
  have hQ2 : Q (.fl (ws.map fun w => encOP (rdP w))) S2 := hQ
  generalize (ws.map fun w => encOP (rdP w)) = V at *
  simp [lt]
  exact hQ2
theorem w_read_no {d : Int} (hi : ∀ S, isinst v (.ty "str") S = some false) (hQ : Q .non S) : WR (CF (k + 1) f__law_read [.int d, v] S) Q E := by
  rw [cf_run (fd := fd__law_read) rfl rfl]
  show Ws (run W (CF k) G bd__law_read [some (.int d), some v, none, none, none, none, none] S) _
  unfold bd__law_read
  generalize CF k = C at *
  refine s_seq (fun _ _ => False) ?_ (fun _ _ z => z.elim)
  simp [hi]
  exact hQ
end
end CC
namespace CC
open PySem PySem.Spec PyProof.Rows L2 TL
section
variable {k : Nat} {v : D} {S : Sto} {Q : D → Sto → Prop} {E : Nat → List D → Sto → Prop}
def DtX (n w : Nat) (v : D) : Prop := (∀ k, v.lt k = true) ∧ (∀ m S, Nice m v S) ∧ ∀ P, Rw P n w v
theorem DtX.le {n m w x : Nat} {v : D} (h : DtX n w v) (hn : n ≤ m) (hw : w ≤ x) : DtX m x v := ⟨h.1, h.2.1, fun P => (h.2.2 P).le hn hw⟩
theorem dtx_clo {n : Nat} {v : D} (h : clo n v) : DtX n (bd n) v := ⟨fun _ => clo_lt h, fun _ _ => clo_nice h, fun _ => clo_rw h⟩
theorem dtx_tup {n w x : Nat} {ds : List D} (h : ∀ d ∈ ds, DtX n w d) (hx : ds.length * (w + 2) + 3 ≤ x) (hl : ds.length ≤ 1000) : DtX (n + 1) x (.tup ds) :=
  ⟨fun k => by rw [lt_tup]; exact List.all_eq_true.mpr fun d hd => (h d hd).1 k, fun m S => by
    cases m with
    | zero => trivial
    | succ m => exact ⟨rfl, fun es e => by cases e; exact ⟨by unfold sizeLine; omega, fun d hd => (h d hd).2.1 m S⟩⟩, fun P => Rw_tup (fun d hd => (h d hd).2.2 P) hx⟩
theorem dtx_fl {n w x : Nat} {ds : List D} (h : ∀ d ∈ ds, DtX n w d) (hx : ds.length * (w + 2) + 3 ≤ x) : DtX (n + 1) x (.fl ds) :=
  ⟨fun k => by rw [lt_fl]; exact List.all_eq_true.mpr fun d hd => (h d hd).1 k, fun m S => by
    cases m with
    | zero => trivial
    | succ m => exact ⟨rfl, fun es e => nomatch e⟩, fun P => Rw_fl (fun d hd => (h d hd).2.2 P) hx⟩
def Bn : Nat → Nat → D → Prop
  | _, _, .non => True
  | _, _, .bl _ => True
  | _, _, .int i => i.natAbs < 10 ^ 100
  | _, _, .str x => (reprText x).length ≤ 1100 ∧ x.length ≤ 100 ∧ ∀ c ∈ tl x, c < 256
  | n + 1, m, .tup ds => ds.length ≤ m ∧ ∀ d ∈ ds, Bn n m d
  | n + 1, m, .fl ds => ds.length ≤ m ∧ ∀ d ∈ ds, Bn n m d
  | _ + 1, _, .fd ks ds => ks = [] ∧ ds = []
  | _, _, _ => False
theorem bn_non {n m : Nat} : Bn n m .non := by cases n <;> trivial
theorem bn_bl {n m : Nat} {b : Bool} : Bn n m (.bl b) := by cases n <;> trivial
theorem bn_int {n m : Nat} {i : Int} : Bn n m (.int i) = (i.natAbs < 10 ^ 100) := by cases n <;> rfl
theorem bn_str {n m : Nat} {x : Str} : Bn n m (.str x) = ((reprText x).length ≤ 1100 ∧ x.length ≤ 100 ∧ ∀ c ∈ tl x, c < 256) := by cases n <;> rfl
theorem Bn.mono : ∀ {n m n' m' : Nat} {v : D}, Bn n m v → n ≤ n' → m ≤ m' → Bn n' m' v
  | _, _, _, _, .non, _, _, _ => bn_non
  | _, _, _, _, .bl _, _, _, _ => bn_bl
  | _, _, _, _, .int _, h, _, _ => by rw [bn_int] at h ⊢; exact h
  | _, _, _, _, .str _, h, _, _ => by rw [bn_str] at h ⊢; exact h
  | n + 1, m, n' + 1, m', .tup ds, h, hn, hm => ⟨Nat.le_trans h.1 hm, fun d hd => (h.2 d hd).mono (by omega) hm⟩
  | n + 1, m, n' + 1, m', .fl ds, h, hn, hm => ⟨Nat.le_trans h.1 hm, fun d hd => (h.2 d hd).mono (by omega) hm⟩
  | n + 1, m, n' + 1, m', .fd ks ds, h, hn, hm => h
  | n + 1, _, 0, _, _, _, hn, _ => absurd hn (by omega)
  | 0, _, _, _, .tup _, h, _, _ => h.elim
  | 0, _, _, _, .fl _, h, _, _ => h.elim
  | 0, _, _, _, .fd _ _, h, _, _ => h.elim
  | 0, _, _, _, .loc _, h, _, _ => h.elim
  | _ + 1, _, _ + 1, _, .loc _, h, _, _ => h.elim
  | 0, _, _, _, .fm _ _, h, _, _ => h.elim
  | _ + 1, _, _ + 1, _, .fm _ _, h, _, _ => h.elim
  | 0, _, _, _, .bd _, h, _, _ => h.elim
  | _ + 1, _, _ + 1, _, .bd _, h, _, _ => h.elim
  | 0, _, _, _, .exn _ _, h, _, _ => h.elim
  | _ + 1, _, _ + 1, _, .exn _ _, h, _, _ => h.elim
  | 0, _, _, _, .ty _, h, _, _ => h.elim
  | _ + 1, _, _ + 1, _, .ty _, h, _, _ => h.elim
  | 0, _, _, _, .fn _, h, _, _ => h.elim
  | _ + 1, _, _ + 1, _, .fn _, h, _, _ => h.elim
  | 0, _, _, _, .cls _, h, _, _ => h.elim
  | _ + 1, _, _ + 1, _, .cls _, h, _, _ => h.elim
def wB (m : Nat) : Nat → Nat
  | 0 => 1100
  | n + 1 => m * (wB m n + 2) + 3
theorem wB_ge {m : Nat} (hm : 1 ≤ m) : ∀ n, 1100 ≤ wB m n
  | 0 => Nat.le_refl _
  | n + 1 => by
    have := wB_ge hm n
    show 1100 ≤ m * (wB m n + 2) + 3
    have : 1 * (wB m n + 2) ≤ m * (wB m n + 2) := Nat.mul_le_mul_right _ hm
    omega
theorem Bn.dt {m : Nat} (hm : 1 ≤ m) (hm2 : m ≤ 1000) : ∀ {n : Nat} {v : D}, Bn n m v → DtX n (wB m n) v
  | n, .non, _ => (dtx_clo (n := 0) (v := .non) trivial).le (by omega) (wB_ge hm n)
  | n, .bl _, _ => (dtx_clo (n := 0) (v := .bl _) trivial).le (by omega) (wB_ge hm n)
  | n, .int _, h => by rw [bn_int] at h; exact (dtx_clo (n := 0) (v := .int _) (Nat.lt_trans h (by decide +kernel))).le (by omega) (wB_ge hm n)
  | n, .str _, h => by rw [bn_str] at h; exact (dtx_clo (n := 0) (v := .str _) h.1).le (by omega) (wB_ge hm n)
  | n + 1, .tup ds, h => dtx_tup (fun d hd => (h.2 d hd).dt hm hm2) (by show _ ≤ m * (wB m n + 2) + 3; exact Nat.add_le_add_right (Nat.mul_le_mul_right _ h.1) _) (Nat.le_trans h.1 hm2)
  | n + 1, .fl ds, h => dtx_fl (fun d hd => (h.2 d hd).dt hm hm2) (by show _ ≤ m * (wB m n + 2) + 3; exact Nat.add_le_add_right (Nat.mul_le_mul_right _ h.1) _)
  | n + 1, .fd ks ds, h => by
    obtain ⟨rfl, rfl⟩ := h
    have h1 := dtx_clo (n := 1) (v := .fd [] []) ⟨rfl, rfl⟩
    exact ⟨h1.1, h1.2.1, fun P => Rw_dic (by omega) (by have := wB_ge hm (n + 1); omega)⟩
  | 0, .tup _, h => h.elim
  | 0, .fl _, h => h.elim
  | 0, .fd _ _, h => h.elim
  | 0, .loc _, h => h.elim
  | _ + 1, .loc _, h => h.elim
  | 0, .fm _ _, h => h.elim
  | _ + 1, .fm _ _, h => h.elim
  | 0, .bd _, h => h.elim
  | _ + 1, .bd _, h => h.elim
  | 0, .exn _ _, h => h.elim
  | _ + 1, .exn _ _, h => h.elim
  | 0, .ty _, h => h.elim
  | _ + 1, .ty _, h => h.elim
  | 0, .fn _, h => h.elim
  | _ + 1, .fn _, h => h.elim
  | 0, .cls _, h => h.elim
  | _ + 1, .cls _, h => h.elim
theorem split_at {ds : List D} {i : Nat} (h : i < ds.length) : ∃ d, ds[i]? = some d ∧ ds = ds.take i ++ d :: ds.drop (i + 1) ∧ (∀ y, ds.set i y = ds.take i ++ y :: ds.drop (i + 1)) ∧ ds.eraseIdx i = ds.take i ++ ds.drop (i + 1) := by
  refine ⟨ds[i], List.getElem?_eq_getElem h, ?_, fun y => ?_, ?_⟩
  · rw [← List.drop_eq_getElem_cons h, List.take_append_drop]
  · rw [List.set_eq_take_append_cons_drop, if_pos h]
  · exact List.eraseIdx_eq_take_drop_succ ..
theorem mt_popAt {ds : List D} {i : Nat} {d : D} (h : ds[i]? = some d) (hz : i < 2 ^ 40) : mtL .popAt ds [.int (i : Nat)] S = some (d, ds.eraseIdx i) := by
  have hi : i < ds.length := (List.getElem?_eq_some_iff.mp h).1
  have c : (decide (-(2 ^ 63) ≤ (i : Int)) && decide ((i : Int) < 2 ^ 63)) = true := by
    simp only [Bool.and_eq_true, decide_eq_true_eq]
    omega
  unfold mtL
  simp only [c, if_true]
  rw [seqIndex_of (by omega) (by omega)]
  simp [h]
theorem mt_insertAt {ds : List D} {i : Nat} {d : D} (hz : i < 2 ^ 40) (hl : ds.length < sizeLine) : mtL .insert ds [.int (i : Nat), d] S = some (.non, ds.take i ++ [d] ++ ds.drop i) := by
  have c : (decide (ds.length < sizeLine) && (decide (0 ≤ (i : Int)) && decide ((i : Int) < 2 ^ 63))) = true := by
    simp only [Bool.and_eq_true, decide_eq_true_eq]
    omega
  unfold mtL
  simp only [c, if_true]
  simp
theorem isi_lt {t : String} (h : tyOfD v S = some t) : isinst v (.tup [.ty "list", .ty "tuple"]) S = some (subTy t "list" || subTy t "tuple") := isi_pair h (by decide +kernel) (by decide +kernel)
def SeqD (x : D) (ds : List D) : Prop := x = .tup ds ∨ x = .fl ds
theorem SeqD.isi {x : D} {ds : List D} (h : SeqD x ds) : isinst x (.tup [.ty "list", .ty "tuple"]) S = some true := by
  rcases h with rfl | rfl
  · exact (isi_lt (t := "tuple") rfl).trans (by decide +kernel)
  · exact (isi_lt (t := "list") rfl).trans (by decide +kernel)
theorem SeqD.len {x : D} {ds : List D} (h : SeqD x ds) : lenD x S = some ds.length := by
  rcases h with rfl | rfl <;> rfl
theorem SeqD.list {x : D} {ds : List D} (h : SeqD x ds) : WR (biD .list [x] S) Q E = Q (.loc S.length) (S ++ [.lst ds]) := by
  rcases h with rfl | rfl
  · rfl
  · rfl
end
end CC
namespace CC
open PySem PySem.Spec PyProof.Rows L2 TL
def isPtD : D → Bool
  | .tup [a, b] => isIntD a 0 && isIntD b 0
  | _ => false
def isPathD : D → Bool
  | .fl (d :: ds) => (d :: ds).all isPtD
  | _ => false
theorem isPtD_len {ds : List D} (h : ds.length ≠ 2) : isPtD (.tup ds) = false := by
  unfold isPtD
  split
  · rename_i e
    cases e
    exact absurd rfl h
  · rfl
section
variable {k : Nat} {v : D} {S : Sto} {Q : D → Sto → Prop} {E : Nat → List D → Sto → Prop}
theorem bn_cases : ∀ {n m : Nat} {x : D}, Bn n m x → (∃ j ds, n = j + 1 ∧ x = .tup ds ∧ ds.length ≤ m ∧ ∀ d ∈ ds, Bn j m d) ∨ (∃ j ds, n = j + 1 ∧ x = .fl ds ∧ ds.length ≤ m ∧ ∀ d ∈ ds, Bn j m d) ∨
    ((∀ S, isinst x (.ty "list") S = some false) ∧ (∀ S, isinst x (.ty "tuple") S = some false) ∧ (∀ ds, x ≠ .tup ds) ∧ ∀ ds, x ≠ .fl ds)
  | _, _, .non, _ => .inr (.inr ⟨fun S => (isi_of (t := "NoneType") rfl (by decide +kernel)).trans (by decide +kernel), fun S => (isi_of (t := "NoneType") rfl (by decide +kernel)).trans (by decide +kernel), (fun _ e => nomatch e), (fun _ e => nomatch e)⟩)
  | _, _, .bl _, _ => .inr (.inr ⟨fun S => (isi_of (t := "bool") rfl (by decide +kernel)).trans (by decide +kernel), fun S => (isi_of (t := "bool") rfl (by decide +kernel)).trans (by decide +kernel), (fun _ e => nomatch e), (fun _ e => nomatch e)⟩)
  | _, _, .int _, _ => .inr (.inr ⟨fun S => (isi_of (t := "int") rfl (by decide +kernel)).trans (by decide +kernel), fun S => (isi_of (t := "int") rfl (by decide +kernel)).trans (by decide +kernel), (fun _ e => nomatch e), (fun _ e => nomatch e)⟩)
  | _, _, .str _, _ => .inr (.inr ⟨fun S => (isi_of (t := "str") rfl (by decide +kernel)).trans (by decide +kernel), fun S => (isi_of (t := "str") rfl (by decide +kernel)).trans (by decide +kernel), (fun _ e => nomatch e), (fun _ e => nomatch e)⟩)
  | n + 1, m, .tup ds, h => .inl ⟨n, ds, rfl, rfl, h.1, h.2⟩
  | n + 1, m, .fl ds, h => .inr (.inl ⟨n, ds, rfl, rfl, h.1, h.2⟩)
  | _ + 1, _, .fd _ _, _ => .inr (.inr ⟨fun S => (isi_of (t := "dict") rfl (by decide +kernel)).trans (by decide +kernel), fun S => (isi_of (t := "dict") rfl (by decide +kernel)).trans (by decide +kernel), (fun _ e => nomatch e), (fun _ e => nomatch e)⟩)
  | 0, _, .tup _, h => h.elim
  | 0, _, .fl _, h => h.elim
  | 0, _, .fd _ _, h => h.elim
  | 0, _, .loc _, h => h.elim
  | _ + 1, _, .loc _, h => h.elim
  | 0, _, .fm _ _, h => h.elim
  | _ + 1, _, .fm _ _, h => h.elim
  | 0, _, .bd _, h => h.elim
  | _ + 1, _, .bd _, h => h.elim
  | 0, _, .exn _ _, h => h.elim
  | _ + 1, _, .exn _ _, h => h.elim
  | 0, _, .ty _, h => h.elim
  | _ + 1, _, .ty _, h => h.elim
  | 0, _, .fn _, h => h.elim
  | _ + 1, _, .fn _, h => h.elim
  | 0, _, .cls _, h => h.elim
  | _ + 1, _, .cls _, h => h.elim
theorem bn_ty {n m : Nat} {x : D} (h : Bn n m x) (h1 : 1 ≤ m) (h2 : m ≤ 1000) : (tyOfD x S).isSome = true := ((h.dt h1 h2).2.1 1 S).1
theorem isi_tT {ds : List D} : isinst (.tup ds) (.ty "tuple") S = some true := isi_tuple rfl
theorem isi_tL {ds : List D} : isinst (.tup ds) (.ty "list") S = some false := isi_list rfl
theorem isi_fL {ds : List D} : isinst (.fl ds) (.ty "list") S = some true := isi_list rfl
theorem isi_fT {ds : List D} : isinst (.fl ds) (.ty "tuple") S = some false := isi_tuple rfl
theorem ws_for_ds {l : List D} {tg : Xp} {b : Env → Sto → Rs} {p : Po} {ρ : Env} {S : Sto} (I : List D → Env → Sto → Prop)
    (go : ∀ d r ρ S, I (d :: r) ρ S → optP (bindT tg d ρ) fun ρ1 => Ws (b ρ1 S) { nx := I r, ct := I r, bk := p.nx, rt := p.rt, ex := p.ex })
    (fin : ∀ ρ S, I [] ρ S → p.nx ρ S) (h : I l ρ S) : Ws (forl (.ds l) tg b (Src.size (.ds l) S + 1) 0 ρ S) p := by
  have h2 := ws_for_map (m := l) (f := id) (tg := tg) (b := b) (p := p) (ρ := ρ) (S := S) I go fin h
  rw [List.map_id] at h2
  exact h2
theorem w_ispath_any {n m : Nat} (hv : Bn n m v) (h1 : 1 ≤ m) (h2 : m ≤ 1000) (hQ : Q (.bl (isPathD v)) S) : WR (CF (k + 2) f_is_path [v] S) Q E := by
  have ii : ∀ (d : D) j, Bn j m d → ∀ Q E (S : Sto), Q (.bl (isIntD d 0)) S → WR (CF (k + 1) f_is_integer [d, .int 0] S) Q E := fun d j hd Q E S h => by
    rw [e_is_integer (k := k) (bn_ty hd h1 h2)]
    exact h
  rw [cf_run (fd := fd_is_path) rfl rfl]
  show Ws (run W (CF (k + 1)) G bd_is_path [some v, none, none] S) _
  unfold bd_is_path
  generalize CF (k + 1) = C at *
  rcases bn_cases hv with ⟨j, ds, rfl, rfl, hl, hd⟩ | ⟨j, ds, rfl, rfl, hl, hd⟩ | ⟨n1, n2, n3, n4⟩
  · refine s_seq (fun _ _ => False) ?_ (fun _ _ z => z.elim)
    simp [isi_tL]
    exact hQ
  · cases ds with
    | nil =>
      refine s_seq (fun _ _ => False) ?_ (fun _ _ z => z.elim)
      have ne : ∀ S, cmpD .Eq (.fl []) (.fl []) S = some true := fun S => eq_nil (S := S) (ds := []) rfl
      simp [isi_fL, ne]
      exact hQ
    | cons d0 r0 =>
      obtain ⟨ds, hds⟩ : ∃ ds, ds = d0 :: r0 := ⟨_, rfl⟩
      have hQ2 : Q (.bl (ds.all isPtD)) S := by rw [hds]; exact hQ
      have ne : ∀ S, cmpD .Eq (.fl ds) (.fl []) S = some false := fun S => by
        rw [eq_nil (S := S) (ds := ds) rfl, hds]
        rfl
      rw [← hds] at hl hd ⊢
      clear hQ hv hds
      refine s_seq (fun ρ S1 => S1 = S ∧ ρ = [some (.fl ds), none, none]) ?_ ?_
      · simp [isi_fL, ne]
      rintro ρ S1 ⟨rfl, rfl⟩
      refine s_seq (fun ρ S2 => S2 = S1 ∧ ds.all isPtD = true ∧ ∃ u, ρ = [some (.fl ds), u, none]) ?_ ?_
      · obtain ⟨I, hI⟩ : ∃ I : List D → Env → Sto → Prop, ∀ rem ρ S2, I rem ρ S2 ↔ S2 = S1 ∧ (∀ p ∈ rem, Bn j m p) ∧ ds.all isPtD = rem.all isPtD ∧ ∃ u, ρ = [some (.fl ds), u, none] := ⟨_, fun _ _ _ => Iff.rfl⟩
        simp
        refine ws_for_ds (l := ds) I ?_ ?_ ((hI _ _ _).mpr ⟨rfl, hd, rfl, _, rfl⟩)
        · intro d rem ρ S2 hz
          obtain ⟨rfl, hr, ha, u, rfl⟩ := (hI _ _ _).mp hz
          have hp := hr d List.mem_cons_self
          rw [List.all_cons] at ha
          have bad : isPtD d = false → Q (.bl false) S2 := fun h => by
            rw [ha, h] at hQ2
            exact hQ2
          have good : isPtD d = true → ∀ u, I rem [some (.fl ds), u, none] S2 := fun h u => (hI _ _ _).mpr ⟨rfl, fun q hq => hr q (List.mem_cons_of_mem _ hq), by rw [ha, h]; rfl, _, rfl⟩
          rcases bn_cases hp with ⟨i, es, rfl, rfl, hl2, hd2⟩ | ⟨i, es, rfl, rfl, hl2, hd2⟩ | ⟨n1, n2, n3, n4⟩
          · by_cases h2 : es.length = 2
            · obtain ⟨a, b, rfl⟩ : ∃ a b, es = [a, b] := by
                match es, h2 with
                | [a, b], _ => exact ⟨a, b, rfl⟩
              simp [isi_tT]
              refine lc_d (l := [a, b]) (fun d => .bl (isIntD d 0)) (by simp [sizeLine]) (fun c hc => ?_) ?_
              · simp
                refine ii c i (hd2 c hc) _ _ _ ?_
                simp
              · rw [fr_new (ltL_map' fun _ => by simp)]
                have e1 : (lstD S2 (.fl ([a, b].map fun d => D.bl (isIntD d 0)))).bind blsOf = some [isIntD a 0, isIntD b 0] := rfl
                rw [e1]
                have e2 : isPtD (.tup [a, b]) = (isIntD a 0 && isIntD b 0) := rfl
                rw [e2] at bad good
                cases ha : isIntD a 0 <;> cases hb : isIntD b 0 <;> simp [ha, hb] at bad good ⊢ <;> first | exact bad | exact good _
            · have h3 := bad (isPtD_len h2)
              have h4 : ¬ ((es.length : Nat) : Int) = 2 := by omega
              simp [isi_tT, h4]
              exact h3
          · have h3 := bad rfl
            simp [isi_fT]
            exact h3
          · have h3 : isPtD d = false := by
              unfold isPtD
              split
              · exact absurd rfl (n3 _)
              · rfl
            have h4 := bad h3
            simp [n2]
            exact h4
        · intro ρ S2 hz
          obtain ⟨rfl, hr, ha, u, rfl⟩ := (hI _ _ _).mp hz
          exact ⟨rfl, List.all_eq_true.mp ha, u, rfl⟩
      rintro ρ S2 ⟨rfl, ha, u, rfl⟩
      rw [ha] at hQ2
      simp
      exact hQ2
  · refine s_seq (fun _ _ => False) ?_ (fun _ _ z => z.elim)
    have e : isPathD v = false := by
      unfold isPathD
      split
      · exact absurd rfl (n4 _)
      · rfl
    rw [e] at hQ
    simp [n1]
    exact hQ
theorem int_D {d : D} {low : Int} (h : isIntD d low = true) : ∃ i, d = .int i ∧ low ≤ i := by
  unfold isIntD at h
  split at h
  · exact ⟨_, rfl, of_decide_eq_true h⟩
  · cases h
theorem bn_lt {n m : Nat} {i : Int} (h : Bn n m (.int i)) : i < 10 ^ 100 := by
  rw [bn_int] at h
  have : (i.natAbs : Int) < 10 ^ 100 := by exact_mod_cast h
  omega
theorem path_of {n m : Nat} (hv : Bn n m v) (h : isPathD v = true) : ∃ l : List (Int × Int), v = .fl (l.map encPt) ∧ l ≠ [] ∧ l.length ≤ m ∧ ∀ p ∈ l, Sp p := by
  have key : ∀ (j : Nat) (ds : List D), (∀ d ∈ ds, Bn j m d) → ds.all isPtD = true → ∃ l : List (Int × Int), ds = l.map encPt ∧ ∀ p ∈ l, Sp p := by
    intro j ds
    induction ds with
    | nil => exact fun _ _ => ⟨[], rfl, fun _ h => nomatch h⟩
    | cons d ds ih =>
      intro hb ha
      rw [List.all_cons, Bool.and_eq_true] at ha
      obtain ⟨l, e, hl⟩ := ih (fun d hd => hb d (List.mem_cons_of_mem _ hd)) ha.2
      have hd := ha.1
      have hbd := hb d List.mem_cons_self
      unfold isPtD at hd
      split at hd
      · rename_i a b
        rw [Bool.and_eq_true] at hd
        obtain ⟨x, rfl, hx⟩ := int_D hd.1
        obtain ⟨y, rfl, hy⟩ := int_D hd.2
        cases j with
        | zero => exact hbd.elim
        | succ j =>
          have b1 := bn_lt (hbd.2 (.int x) (by simp))
          have b2 := bn_lt (hbd.2 (.int y) (by simp))
          refine ⟨(x, y) :: l, by rw [e]; rfl, fun p hp => ?_⟩
          rcases List.mem_cons.mp hp with rfl | hp
          · exact ⟨hx, b1, hy, b2⟩
          · exact hl p hp
      · cases hd
  unfold isPathD at h
  split at h
  · rename_i d ds
    cases n with
    | zero => exact hv.elim
    | succ n =>
      obtain ⟨l, e, hl⟩ := key n (d :: ds) hv.2 h
      have h3 := hv.1
      rw [e] at h3
      refine ⟨l, by rw [e], fun z => ?_, by simpa using h3, hl⟩
      rw [z] at e
      cases e
  · cases h
theorem run_of {n m : Nat} {A B : Str} {d : D} (hv : Bn n m d) (h : isRunD A B d = true) : ∃ p : Str × Int, d = encP p ∧ (p.1 = A ∨ p.1 = B) ∧ 1 ≤ p.2 ∧ p.2 < 10 ^ 100 := by
  unfold isRunD at h
  split at h
  · rename_i s c
    rw [Bool.and_eq_true, Bool.or_eq_true, beq_iff_eq, beq_iff_eq] at h
    obtain ⟨i, rfl, hi⟩ := int_D h.2
    cases n with
    | zero => exact hv.elim
    | succ n => exact ⟨(s, i), rfl, h.1, hi, bn_lt (hv.2 (.int i) (by simp))⟩
  · cases h
theorem runs_of {n m : Nat} {ca cb : Nat} (ha : 65 ≤ ca ∧ ca ≤ 90) (hb : 65 ≤ cb ∧ cb ≤ 90) {x : D} (hv : Bn n m x) (h : areRunsD (mkS [ca]) (mkS [cb]) x = true) : ∃ a : Runs, x = encR a ∧ okR (mkS [ca]) (mkS [cb]) a = true ∧ a ≠ [] ∧ a.length ≤ m ∧ ∀ p ∈ a, SmR p := by
  have key : ∀ (j : Nat) (ds : List D), (∀ d ∈ ds, Bn j m d) → ds.all (isRunD (mkS [ca]) (mkS [cb])) = true → ∃ l : Runs, ds = l.map encP ∧ ∀ p ∈ l, SmR p := by
    intro j ds
    induction ds with
    | nil => exact fun _ _ => ⟨[], rfl, fun _ h => nomatch h⟩
    | cons d ds ih =>
      intro hb2 ha2
      rw [List.all_cons, Bool.and_eq_true] at ha2
      obtain ⟨l, e, hl⟩ := ih (fun d hd => hb2 d (List.mem_cons_of_mem _ hd)) ha2.2
      obtain ⟨p, rfl, h1, h2, h3⟩ := run_of (hb2 d List.mem_cons_self) ha2.1
      refine ⟨p :: l, by rw [e]; rfl, fun q hq => ?_⟩
      rcases List.mem_cons.mp hq with rfl | hq
      · refine ⟨?_, by omega, h3⟩
        rcases h1 with h1 | h1
        · exact ⟨ca, h1, ha⟩
        · exact ⟨cb, h1, hb⟩
      · exact hl q hq
  cases x with
  | tup l =>
    have h0 := h
    unfold areRunsD at h
    simp only [Bool.and_eq_true] at h
    cases n with
    | zero => exact hv.elim
    | succ n =>
      obtain ⟨a, rfl, hs⟩ := key n l hv.2 h.1.2
      refine ⟨a, rfl, ?_, fun z => ?_, by simpa using hv.1, hs⟩
      · have := areRuns_enc (a := mkS [ca]) (b := mkS [cb]) (l := a)
        rw [← this]
        exact h0
      · subst z
        cases h.1.1
  | _ => cases h
theorem city_of {n m : Nat} (hm : m ≤ 1000) (hv : Bn n m v) (h : isCityD v = true) : ∃ a b : Runs, v = encC a b ∧ Town a b ∧ a ≠ [] ∧ b ≠ [] ∧ a.length ≤ m ∧ b.length ≤ m ∧ (∀ p ∈ a, SmR p) ∧ ∀ p ∈ b, SmR p := by
  unfold isCityD at h
  split at h
  · rename_i x y
    rw [Bool.and_eq_true] at h
    rw [e_mk, w_mk', n_mk, s_mk] at h
    cases n with
    | zero => exact hv.elim
    | succ n =>
      obtain ⟨a, rfl, oa, na, la, sa⟩ := runs_of (by decide) (by decide) (hv.2 x (by simp)) h.1
      obtain ⟨b, rfl, ob, nb, lb, sb⟩ := runs_of (by decide) (by decide) (hv.2 y (by simp)) h.2
      refine ⟨a, b, rfl, ⟨?_, ?_, by unfold sizeLine; omega, by unfold sizeLine; omega⟩, na, nb, la, lb, sa, sb⟩
      · rw [e_mk, w_mk']; exact oa
      · rw [n_mk, s_mk]; exact ob
  · cases h
theorem w_fcity_any {n m : Nat} (hv : Bn n m v) (h1 : 1 ≤ m) (h2 : m ≤ 1000) (hQ : ∀ a b, v = encC a b → isCityD v = true → Q (.str (cityT a b)) S) (hE : isCityD v = false → E 1 [] S) : WR (CF (k + 5) f_format_city [v] S) Q E := by
  cases hc : isCityD v with
  | true =>
    obtain ⟨a, b, rfl, t, na, nb, la, lb, sa, sb⟩ := city_of h2 hv hc
    exact w_fcity (k := k) t (by omega) (by omega) sa sb (hQ a b rfl hc)
  | false =>
    have ic : ∀ Q E (S : Sto), Q (.bl false) S → WR (CF (k + 4) f_is_city [v] S) Q E := fun Q E S h => by
      rw [e_is_city (k := k) ((hv.dt h1 h2).2.1 4 S), hc]
      exact h
    rw [cf_run (fd := fd_format_city) rfl rfl]
    show Ws (run W (CF (k + 4)) G bd_format_city [some v] S) _
    unfold bd_format_city
    generalize CF (k + 4) = C at *
    refine s_seq (fun _ _ => False) ?_ (fun _ _ z => z.elim)
    simp
    refine ic _ _ _ ?_
    simp
    exact hE hc
theorem w_fdrive_any {n m : Nat} (hv : Bn n m v) (h1 : 1 ≤ m) (h2 : m ≤ 1000) (hQ : ∀ l, v = .fl (l.map encPt) → isPathD v = true → Q (.str (driveT l)) S) (hE : isPathD v = false → E 5 [] S) : WR (CF (k + 3) f_format_drive [v] S) Q E := by
  cases hc : isPathD v with
  | true =>
    obtain ⟨l, rfl, nl, ll, sl⟩ := path_of hv hc
    exact w_fdrive (k := k) nl (by omega) sl (hQ l rfl hc)
  | false =>
    have ip : ∀ Q E (S : Sto), Q (.bl false) S → WR (CF (k + 2) f_is_path [v] S) Q E := fun Q E S h => w_ispath_any (k := k) hv h1 h2 (by rw [hc]; exact h)
    rw [cf_run (fd := fd_format_drive) rfl rfl]
    show Ws (run W (CF (k + 2)) G bd_format_drive [some v, none, none] S) _
    unfold bd_format_drive
    generalize CF (k + 2) = C at *
    refine s_seq (fun _ _ => False) ?_ (fun _ _ z => z.elim)
    simp
    refine ip _ _ _ ?_
    simp
    exact hE hc
end
end CC
namespace CC
open PySem PySem.Spec PyProof.Rows L2 TL
def hdS : Sx → Sx
  | .cons a _ => a
  | s => s
def tlS : Sx → Sx
  | .cons _ b => b
  | s => s
def fbS : Sx → Sx
  | .for_ _ _ b => b
  | s => s
def wrBody : Sx := fbS (hdS (tlS (tlS bd__law_written)))
def lastS (l : List D) : Str := match l.getLast? with
  | none => ""
  | some e => fstS e
section
variable {k : Nat} {v : D} {S : Sto} {Q : D → Sto → Prop} {E : Nat → List D → Sto → Prop}
theorem e_is_num {low : Int} (hv : (tyOfD v S).isSome = true) : WR (CF (k + 1) f__law_is_number [v, .int low] S) Q E = Q (.bl (isIntD v low)) S := by
  rw [cf_run (fd := fd__law_is_number) rfl rfl]
  simp [fd__law_is_number, bd__law_is_number, startE, isi_int hv, isi_bool hv]
  cases v <;> simp [isIB, isBB, isIntD]
theorem areRuns_no {a b : Str} {x : D} (h : ∀ ds, x ≠ .tup ds) : areRunsD a b x = false := by
  unfold areRunsD
  split
  · exact absurd rfl (h _)
  · rfl
theorem isRun_no {a b : Str} {x : D} (h : ∀ ds, x ≠ .tup ds) : isRunD a b x = false := by
  unfold isRunD
  split
  · exact absurd rfl (h _)
  · rfl
theorem isi_sT {s : Str} : isinst (.str s) (.ty "str") S = some true := isi_str rfl
def lastOk (l : List D) (s : Str) : Bool := match l.getLast? with
  | none => true
  | some e => fstS e != s
theorem okA_snoc2 {a b : Str} {l : List D} {d : D} : okA a b (l ++ [d]) = (okA a b l && (isRunD a b d && lastOk l (fstS d))) := okA_snoc
theorem w_axis {C : CallSem} (hC : ∀ (d : D) (low : Int) Q E (S : Sto), (tyOfD d S).isSome = true → Q (.bl (isIntD d low)) S → WR (C f__law_is_number [d, .int low] S) Q E) {n m : Nat} {x : D} {j : Int} {ca cb : Nat} (hca : ca < 256) (hcb : cb < 256)
    (hx : ∀ S, ixD v (.int j) S = some x) (hb : Bn n m x) (h1 : 1 ≤ m) (h2 : m ≤ 1000) {u2 u5 u6 u7 u8 u9 u10 u11 : Option D} {p : Po}
    (hok : areRunsD (mkS [ca]) (mkS [cb]) x = true → ∀ u5 u6, p.nx [some (.int 0), some v, u2, some (.int j), some (.str (mkS [ca, cb])), u5, u6, u7, u8, u9, u10, u11] S)
    (hno : areRunsD (mkS [ca]) (mkS [cb]) x = false → p.rt .non S) :
    Ws (run W C G wrBody [some (.int 0), some v, u2, some (.int j), some (.str (mkS [ca, cb])), u5, u6, u7, u8, u9, u10, u11] S) p := by
  have i0 : ∀ S, ixD (.str (mkS [ca, cb])) (.int 0) S = some (.str (mkS [ca])) := fun S => by
    show (if (mkS [ca, cb]).length ≤ sizeLine then (atI [ca, cb] 0).map fun c => D.str ⟨#[c]⟩ else none) = _
    rw [if_pos (by rw [mkS_len]; show 2 ≤ sizeLine; decide)]
    rfl
  have i1 : ∀ S, ixD (.str (mkS [ca, cb])) (.int 1) S = some (.str (mkS [cb])) := fun S => by
    show (if (mkS [ca, cb]).length ≤ sizeLine then (atI [ca, cb] 1).map fun c => D.str ⟨#[c]⟩ else none) = _
    rw [if_pos (by rw [mkS_len]; show 2 ≤ sizeLine; decide)]
    rfl
  unfold wrBody bd__law_written
  simp only [hdS, tlS, fbS]
  rcases bn_cases hb with ⟨jj, ds, rfl, rfl, hl, hd⟩ | ⟨jj, ds, rfl, rfl, hl, hd⟩ | ⟨n1, n2, n3, n4⟩
  · cases hds : ds with
    | nil =>
      subst hds
      have hq := hno rfl
      refine s_seq (fun _ _ => False) ?_ (fun _ _ z => z.elim)
      simp [hx, isi_tT]
      exact hq
    | cons d0 r0 =>
      have hne : ds ≠ [] := by rw [hds]; simp
      have hln : ¬ ((ds.length : Nat) : Int) = 0 := by rw [hds, List.length_cons]; omega
      clear hds
      rw [areRuns_okA hne] at hok hno
      refine s_seq (fun ρ S1 => S1 = S ∧ ρ = [some (.int 0), some v, u2, some (.int j), some (.str (mkS [ca, cb])), u5, u6, u7, u8, u9, u10, u11]) ?_ ?_
      · simp [hx, isi_tT, hln]
        intro z
        exact absurd z hne
      rintro ρ S1 ⟨rfl, rfl⟩
      refine s_seq (fun ρ S1' => S1' = S1 ∧ ρ = [some (.int 0), some v, u2, some (.int j), some (.str (mkS [ca, cb])), some (.str ""), u6, u7, u8, u9, u10, u11]) (by simp) ?_
      rintro ρ S1' ⟨rfl, rfl⟩
      obtain ⟨I, hI⟩ : ∃ I : List D → Env → Sto → Prop, ∀ rem ρ S2, I rem ρ S2 ↔ S2 = S1' ∧ (∀ d ∈ rem, Bn jj m d) ∧ ∃ dn u6, ds = dn ++ rem ∧ okA (mkS [ca]) (mkS [cb]) dn = true ∧ ρ = [some (.int 0), some v, u2, some (.int j), some (.str (mkS [ca, cb])), some (.str (lastS dn)), u6, u7, u8, u9, u10, u11] := ⟨_, fun _ _ _ => Iff.rfl⟩
      have I0 : I ds [some (.int 0), some v, u2, some (.int j), some (.str (mkS [ca, cb])), some (.str ""), u6, u7, u8, u9, u10, u11] S1' := (hI _ _ _).mpr ⟨rfl, hd, [], u6, rfl, rfl, rfl⟩
      simp [hx]
      refine ws_for_ds (l := ds) I ?_ ?_ I0
      · intro d rem ρ S2 hz
        obtain ⟨rfl, hr, dn, w6, hdn, hokd, rfl⟩ := (hI _ _ _).mp hz
        have hbd := hr d List.mem_cons_self
        have fail : okA (mkS [ca]) (mkS [cb]) (dn ++ [d]) = false → p.rt .non S2 := fun h => by
          refine hno ?_
          have e : ds = (dn ++ [d]) ++ rem := by rw [hdn]; simp
          rw [e]
          exact okA_false h
        have good : okA (mkS [ca]) (mkS [cb]) (dn ++ [d]) = true → ∀ u6, I rem [some (.int 0), some v, u2, some (.int j), some (.str (mkS [ca, cb])), some (.str (fstS d)), u6, u7, u8, u9, u10, u11] S2 := fun h u6 => by
          refine (hI _ _ _).mpr ⟨rfl, fun q hq => hr q (List.mem_cons_of_mem _ hq), dn ++ [d], u6, by rw [hdn]; simp, h, ?_⟩
          have : lastS (dn ++ [d]) = fstS d := by unfold lastS; rw [List.getLast?_append, List.getLast?_singleton]; rfl
          rw [this]
        rw [okA_snoc2, hokd, Bool.true_and] at fail good
        simp only [bindT_var, optP_some, List.set_cons_succ, List.set_cons_zero]
        rcases bn_cases hbd with ⟨i, es, rfl, rfl, hl2, hd2⟩ | ⟨i, es, rfl, rfl, hl2, hd2⟩ | ⟨n1, n2, n3, n4⟩
        · by_cases hl3 : es.length = 2
          · obtain ⟨a, b, rfl⟩ : ∃ a b, es = [a, b] := by
              match es, hl3 with
              | [a, b], _ => exact ⟨a, b, rfl⟩
            have ta := fun S => bn_ty (S := S) (hd2 a (by simp)) h1 h2
            have tb := fun S => bn_ty (S := S) (hd2 b (by simp)) h1 h2
            have a0 : atI [a, b] 0 = some a := rfl
            have a1 : atI [a, b] 1 = some b := rfl
            by_cases hs : ∃ s, a = .str s
            · obtain ⟨s, rfl⟩ := hs
              have f1 : fstS (.tup [.str s, b]) = s := rfl
              rw [f1] at fail good
              have r1 : isRunD (mkS [ca]) (mkS [cb]) (.tup [.str s, b]) = ((s == mkS [ca] || s == mkS [cb]) && isIntD b 1) := rfl
              rw [r1] at fail good
              have ni : ∀ S, cmpD .NotIn (.str s) (.fl [.str (mkS [ca]), .str (mkS [cb])]) S = some (!(s == mkS [ca] || s == mkS [cb])) := fun S => by
                show (inD (.str s) (.fl [.str (mkS [ca]), .str (mkS [cb])]) S).map (!·) = _
                have hbs := hd2 (.str s) (by simp)
                rw [bn_str] at hbs
                rw [in_cl (n := 0) (m := 0) (b := (s == mkS [ca] || s == mkS [cb])) (show cl 0 (.str s) = true from strOk_T hbs.2.2) (fun d hd => by
                  simp only [List.mem_cons, List.not_mem_nil, or_false] at hd
                  rcases hd with rfl | rfl
                  · exact strOk_T (x := mkS [ca]) fun c hc => by
                      rw [tl_mkS, List.mem_singleton] at hc
                      omega
                  · exact strOk_T (x := mkS [cb]) fun c hc => by
                      rw [tl_mkS, List.mem_singleton] at hc
                      omega) (by decide) (by decide) (by
                    rw [Bool.or_eq_true, beq_iff_eq, beq_iff_eq]
                    simp)]
                rfl
              refine s_seq (fun ρ S3 => S3 = S2 ∧ ρ = [some (.int 0), some v, u2, some (.int j), some (.str (mkS [ca, cb])), some (.str (lastS dn)), some (.tup [.str s, b]), u7, u8, u9, u10, u11]) ?_ ?_
              · simp [isi_tT, a0, isi_sT]
              rintro ρ S3 ⟨rfl, rfl⟩
              refine s_seq (fun ρ S4 => S4 = S3 ∧ ρ = [some (.int 0), some v, u2, some (.int j), some (.str (mkS [ca, cb])), some (.str (lastS dn)), some (.tup [.str s, b]), u7, u8, u9, u10, u11] ∧ ((s == mkS [ca] || s == mkS [cb]) && isIntD b 1 && lastOk dn s) = true) ?_ ?_
              · cases hin : (s == mkS [ca] || s == mkS [cb]) with
                | false =>
                  rw [hin] at ni fail
                  have hq := fail rfl
                  simp [i0, i1, a0, ni]
                  exact hq
                | true =>
                  rw [hin] at ni fail
                  cases heq : (s == lastS dn) with
                  | true =>
                    have hq := fail (by
                      unfold lastOk
                      unfold lastS at heq
                      cases hg : dn.getLast? with
                      | none =>
                        rw [hg] at heq
                        exfalso
                        rw [beq_iff_eq] at heq
                        subst heq
                        revert hin
                        have e0 : ("" : Str) = mkS [] := rfl
                        rw [e0]
                        simp [mkS_beq]
                      | some e =>
                        rw [hg] at heq
                        have heq : (s == fstS e) = true := heq
                        rw [beq_iff_eq] at heq
                        simp [heq])
                    simp [i0, i1, a0, ni, str_eq, heq]
                    exact hq
                  | false =>
                    have hlast : lastOk dn s = true := by
                      unfold lastOk
                      unfold lastS at heq
                      cases hg : dn.getLast? with
                      | none => rfl
                      | some e =>
                        rw [hg] at heq
                        have heq : (s == fstS e) = false := heq
                        rw [beq_eq_false_iff_ne] at heq
                        show (fstS e != s) = true
                        rw [bne_iff_ne]
                        exact fun z => heq z.symm
                    rw [hlast] at fail ⊢
                    simp [i0, i1, a0, a1, ni, str_eq, heq]
                    refine hC b 1 _ _ _ (tb _) ?_
                    cases hi : isIntD b 1 with
                    | false =>
                      rw [hi] at fail
                      have hq := fail rfl
                      simp
                      exact hq
                    | true => simp
              rintro ρ S4 ⟨rfl, rfl, hg⟩
              have g2 := good hg
              simp [a0]
              exact g2 _
            · have hq := fail (by
                have : isRunD (mkS [ca]) (mkS [cb]) (.tup [a, b]) = false := by
                  unfold isRunD
                  split
                  · rename_i e
                    injection e with e
                    injection e with e _
                    exact absurd ⟨_, e⟩ hs
                  · rfl
                rw [this]
                rfl)
              have hsb : isSB a = false := by
                cases a <;> first | rfl | exact absurd ⟨_, rfl⟩ hs
              refine s_seq (fun _ _ => False) ?_ (fun _ _ z => z.elim)
              simp [isi_tT, a0, isi_str (ta _), hsb]
              exact hq
          · have hq := fail (by rw [isRunD_len hl3]; rfl)
            have h4 : ¬ ((es.length : Nat) : Int) = 2 := by omega
            refine s_seq (fun _ _ => False) ?_ (fun _ _ z => z.elim)
            simp [isi_tT, h4]
            exact hq
        · have hq := fail (by rw [isRun_no (x := .fl es) (fun _ e => nomatch e)]; rfl)
          refine s_seq (fun _ _ => False) ?_ (fun _ _ z => z.elim)
          simp [isi_fT]
          exact hq
        · have hq := fail (by rw [isRun_no n3]; rfl)
          refine s_seq (fun _ _ => False) ?_ (fun _ _ z => z.elim)
          simp [n2]
          exact hq
      · intro ρ S2 hz
        obtain ⟨rfl, hr, dn, w6, hdn, hokd, rfl⟩ := (hI _ _ _).mp hz
        rw [List.append_nil] at hdn
        subst hdn
        exact hok hokd _ _
  · have hq := hno (areRuns_no (x := .fl ds) (fun _ e => nomatch e))
    refine s_seq (fun _ _ => False) ?_ (fun _ _ z => z.elim)
    simp [hx, isi_fT]
    exact hq
  · have hq := hno (areRuns_no n3)
    refine s_seq (fun _ _ => False) ?_ (fun _ _ z => z.elim)
    simp [hx, n2]
    exact hq
theorem w_written0 {n m : Nat} (hv : Bn n m v) (h1 : 1 ≤ m) (h2 : m ≤ 1000) (hQ : ∀ a b, v = encC a b → isCityD v = true → Q (.str (cityT a b)) S) (hE : isCityD v = false → Q .non S) : WR (CF (k + 2) f__law_written [.int 0, v] S) Q E := by
  have hC : ∀ (d : D) (low : Int) Q E (S : Sto), (tyOfD d S).isSome = true → Q (.bl (isIntD d low)) S → WR (CF (k + 1) f__law_is_number [d, .int low] S) Q E := fun d low Q E S ht h => by
    rw [e_is_num (k := k) ht]
    exact h
  rw [cf_run (fd := fd__law_written) rfl rfl]
  show Ws (run W (CF (k + 1)) G bd__law_written [some (.int 0), some v, none, none, none, none, none, none, none, none, none, none] S) _
  unfold bd__law_written
  generalize CF (k + 1) = C at *
  refine s_seq (fun ρ S1 => S1 = S ∧ ρ = [some (.int 0), some v, none, none, none, none, none, none, none, none, none, none]) ?_ ?_
  · refine s_ifF rfl ?_
    exact ⟨rfl, rfl⟩
  rintro ρ S1 ⟨rfl, rfl⟩
  rcases bn_cases hv with ⟨jj, ds, rfl, rfl, hl, hd⟩ | ⟨jj, ds, rfl, rfl, hl, hd⟩ | ⟨n1, n2, n3, n4⟩
  · by_cases hl3 : ds.length = 2
    · obtain ⟨x, y, rfl⟩ : ∃ a b, ds = [a, b] := by
        match ds, hl3 with
        | [a, b], _ => exact ⟨a, b, rfl⟩
      refine s_seq (fun ρ S2 => S2 = S1 ∧ ρ = [some (.int 0), some (.tup [x, y]), none, none, none, none, none, none, none, none, none, none]) ?_ ?_
      · simp [isi_tT]
      rintro ρ S2 ⟨rfl, rfl⟩
      have hx : ∀ S, ixD (.tup [x, y]) (.int 0) S = some x := fun _ => rfl
      have hy : ∀ S, ixD (.tup [x, y]) (.int 1) S = some y := fun _ => rfl
      have eC : isCityD (.tup [x, y]) = (areRunsD (mkS [69]) (mkS [87]) x && areRunsD (mkS [78]) (mkS [83]) y) := by
        rw [← e_mk, ← w_mk', ← n_mk, ← s_mk]
        rfl
      have bx := hd x (by simp)
      have by_ := hd y (by simp)
      obtain ⟨P, hP⟩ : ∃ P : Env → Sto → Prop, ∀ ρ S3, P ρ S3 ↔ S3 = S2 ∧ isCityD (.tup [x, y]) = true ∧ ∃ u3 u4 u5 u6, ρ = [some (.int 0), some (.tup [x, y]), none, u3, u4, u5, u6, none, none, none, none, none] := ⟨_, fun _ _ => Iff.rfl⟩
      refine s_seq P ?_ ?_
      · have en : enumL 0 [D.str "EW", .str "NS"] = [.tup [.int 0, .str (mkS [69, 87])], .tup [.int 1, .str (mkS [78, 83])]] := by
          rw [← ew_mk, ← ns_mk]
          rfl
        simp
        rw [en, ws_ds]
        simp only [ws_D_cons, ws_D_nil, bindT_tup, bindL_cons, bindL_nil, bindT_var, Option.bind_some, optP_some, List.set_cons_succ, List.set_cons_zero]
        refine w_axis hC (ca := 69) (cb := 87) (by decide) (by decide) (j := 0) hx bx h1 h2 (fun ha u5 u6 => ?_) (fun ha => ?_)
        · refine w_axis hC (ca := 78) (cb := 83) (by decide) (by decide) (j := 1) hy by_ h1 h2 (fun hb u5 u6 => ?_) (fun hb => ?_)
          · exact (hP _ _).mpr ⟨rfl, by rw [eC, ha, hb]; rfl, _, _, _, _, rfl⟩
          · simp
            exact hE (by rw [eC, ha, hb]; rfl)
        · simp
          exact hE (by rw [eC, ha]; rfl)
      intro ρ S3 hz
      obtain ⟨rfl, hc, u3, u4, u5, u6, rfl⟩ := (hP _ _).mp hz
      obtain ⟨a, b, hab, tw, na, nb, la, lb, sa, sb⟩ := city_of (n := jj + 1) (m := m) h2 (v := .tup [x, y]) ⟨hl, hd⟩ hc
      have hq := hQ a b hab hc
      rw [hab]
      have so : srcOf (encC a b) S3 = some (.ds ([a, b].map encR)) := rfl
      have jo : ∀ l : Runs, l.length ≤ m → (∀ p ∈ l, SmR p) → ((l.map wR).map (·.length)).sum + (l.map wR).length * (" " : Str).length ≤ 16777216 := fun l hl hs => by
        have h1 : ((l.map wR).map (·.length)).sum ≤ 101 * l.length := by
          rw [List.map_map]
          exact sum_le fun p hp => wR_len (hs p hp)
        have h2 : (" " : Str).length = 1 := by with_unfolding_all rfl
        rw [h2, List.length_map]
        omega
      have barl : (" | " : Str).length = 3 := by with_unfolding_all rfl
      have jo2 : (([a, b].map runsT).map (·.length)).sum + ([a, b].map runsT).length * (" | " : Str).length ≤ 16777216 := by
        have h1 := runsT_len sa
        have h2 := runsT_len sb
        rw [barl]
        show ((runsT a).length + ((runsT b).length + 0)) + 2 * 3 ≤ _
        omega
      have jt : Txt.join " | " ([a, b].map runsT) = cityT a b := by
        refine ext_tl ?_
        unfold cityT
        rw [join_eq, tl_join, tl_append, tl_append]
        show tl (runsT a) ++ (tl (" | " : Str) ++ tl (runsT b)) = _
        rw [List.append_assoc]
      clear hQ hE eC hx hy
      generalize encC a b = ec at *
      simp [so]
      refine lc_m (m := [a, b]) (enc := encR) (fun l => .str (runsT l)) (by simp [sizeLine]) (fun l hl => ?_) ?_
      · have hl2 : l.length ≤ m ∧ ∀ p ∈ l, SmR p := by
          simp only [List.mem_cons, List.not_mem_nil, or_false] at hl
          rcases hl with rfl | rfl
          · exact ⟨la, sa⟩
          · exact ⟨lb, sb⟩
        have so2 : srcOf (encR l) S3 = some (.ds (l.map encP)) := rfl
        simp [so2]
        refine lc_m (m := l) (enc := encP) (fun p => .str (wR p)) (by unfold sizeLine; omega) (fun p hp => ?_) ?_
        · have hs := hl2.2
          have e : Str.ofString p.2.repr = numS p.2.toNat := numS_of (hs p hp).lo
          have h1 := wR_len (hs p hp)
          have h2 : (wR p).length = p.1.length + (numS p.2.toNat).length := Str.length_append _ _
          simp [encP]
          rw [e]
          exact ⟨by simpa using log_ok (hs p hp).lo (hs p hp).hi, by rw [← h2]; unfold sizeLine; omega, rfl⟩
        · have e : l.map (fun p => D.str (wR p)) = (l.map wR).map D.str := by rw [List.map_map]; rfl
          rw [e, fr_new (ltL_map' fun _ => by simp), e_joiF (jo l hl2.1 hl2.2)]
          exact ⟨rfl, rfl⟩
      · have e : [a, b].map (fun l => D.str (runsT l)) = ([a, b].map runsT).map D.str := by rw [List.map_map]; rfl
        rw [e, fr_new (ltL_map' fun _ => by simp), e_joiF jo2, jt]
        simp
        exact hq
    · have h4 : ¬ ((ds.length : Nat) : Int) = 2 := by omega
      have hq := hE (isCityD_len hl3)
      refine s_seq (fun _ _ => False) ?_ (fun _ _ z => z.elim)
      simp [isi_tT, h4]
      exact hq
  · have hq := hE rfl
    refine s_seq (fun _ _ => False) ?_ (fun _ _ z => z.elim)
    simp [isi_fT]
    exact hq
  · have hq := hE (by
      unfold isCityD
      split
      · exact absurd rfl (n3 _)
      · rfl)
    refine s_seq (fun _ _ => False) ?_ (fun _ _ z => z.elim)
    simp [n2]
    exact hq
theorem w_written1 {n m : Nat} (hv : Bn n m v) (h1 : 1 ≤ m) (h2 : m ≤ 1000) (hQ : ∀ l, v = .fl (l.map encPt) → isPathD v = true → Q (.str (driveT l)) S) (hE : isPathD v = false → Q .non S) : WR (CF (k + 2) f__law_written [.int 1, v] S) Q E := by
  have hC : ∀ (d : D) (low : Int) Q E (S : Sto), (tyOfD d S).isSome = true → Q (.bl (isIntD d low)) S → WR (CF (k + 1) f__law_is_number [d, .int low] S) Q E := fun d low Q E S ht h => by
    rw [e_is_num (k := k) ht]
    exact h
  rw [cf_run (fd := fd__law_written) rfl rfl]
  show Ws (run W (CF (k + 1)) G bd__law_written [some (.int 1), some v, none, none, none, none, none, none, none, none, none, none] S) _
  unfold bd__law_written
  generalize CF (k + 1) = C at *
  refine s_seq (fun _ _ => False) ?_ (fun _ _ z => z.elim)
  refine s_ifT rfl ?_
  rcases bn_cases hv with ⟨jj, ds, rfl, rfl, hl, hd⟩ | ⟨jj, ds, rfl, rfl, hl, hd⟩ | ⟨n1, n2, n3, n4⟩
  · have hq := hE rfl
    refine s_seq (fun _ _ => False) ?_ (fun _ _ z => z.elim)
    simp [isi_tL]
    exact hq
  · cases hds : ds with
    | nil =>
      subst hds
      have hq := hE rfl
      have ne : ∀ S, cmpD .Eq (.fl []) (.fl []) S = some true := fun S => eq_nil (S := S) (ds := []) rfl
      refine s_seq (fun _ _ => False) ?_ (fun _ _ z => z.elim)
      simp [isi_fL, ne]
      exact hq
    | cons d0 r0 =>
      have ea : isPathD (.fl ds) = ds.all isPtD := by rw [hds]; rfl
      have ne : ∀ S, cmpD .Eq (.fl ds) (.fl []) S = some false := fun S => by
        rw [eq_nil (S := S) (ds := ds) rfl, hds]
        rfl
      rw [← hds]
      clear hds
      refine s_seq (fun ρ S1 => S1 = S ∧ ρ = [some (.int 1), some (.fl ds), none, none, none, none, none, none, none, none, none, none]) ?_ ?_
      · simp [isi_fL, ne]
      rintro ρ S1 ⟨rfl, rfl⟩
      obtain ⟨P, hP⟩ : ∃ P : Env → Sto → Prop, ∀ ρ S3, P ρ S3 ↔ S3 = S1 ∧ ds.all isPtD = true ∧ ∃ u2, ρ = [some (.int 1), some (.fl ds), u2, none, none, none, none, none, none, none, none, none] := ⟨_, fun _ _ => Iff.rfl⟩
      refine s_seq P ?_ ?_
      · obtain ⟨I, hI⟩ : ∃ I : List D → Env → Sto → Prop, ∀ rem ρ S2, I rem ρ S2 ↔ S2 = S1 ∧ (∀ d ∈ rem, Bn jj m d) ∧ ds.all isPtD = rem.all isPtD ∧ ∃ u2, ρ = [some (.int 1), some (.fl ds), u2, none, none, none, none, none, none, none, none, none] := ⟨_, fun _ _ _ => Iff.rfl⟩
        have I0 : I ds [some (.int 1), some (.fl ds), none, none, none, none, none, none, none, none, none, none] S1 := (hI _ _ _).mpr ⟨rfl, hd, rfl, _, rfl⟩
        simp
        refine ws_for_ds (l := ds) I ?_ ?_ I0
        · intro d rem ρ S2 hz
          obtain ⟨rfl, hr, ha, w2, rfl⟩ := (hI _ _ _).mp hz
          have hbd := hr d List.mem_cons_self
          rw [List.all_cons] at ha
          have fail : isPtD d = false → Q .non S2 := fun h => hE (by rw [ea, ha, h]; rfl)
          have good : isPtD d = true → ∀ u2, I rem [some (.int 1), some (.fl ds), u2, none, none, none, none, none, none, none, none, none] S2 := fun h u2 => (hI _ _ _).mpr ⟨rfl, fun q hq => hr q (List.mem_cons_of_mem _ hq), by rw [ha, h]; rfl, u2, rfl⟩
          simp only [bindT_var, optP_some, List.set_cons_succ, List.set_cons_zero]
          rcases bn_cases hbd with ⟨i, es, rfl, rfl, hl2, hd2⟩ | ⟨i, es, rfl, rfl, hl2, hd2⟩ | ⟨n1, n2, n3, n4⟩
          · by_cases hl3 : es.length = 2
            · obtain ⟨a, b, rfl⟩ : ∃ a b, es = [a, b] := by
                match es, hl3 with
                | [a, b], _ => exact ⟨a, b, rfl⟩
              have ta := fun S => bn_ty (S := S) (hd2 a (by simp)) h1 h2
              have tb := fun S => bn_ty (S := S) (hd2 b (by simp)) h1 h2
              have a0 : atI [a, b] 0 = some a := rfl
              have a1 : atI [a, b] 1 = some b := rfl
              have e2 : isPtD (.tup [a, b]) = (isIntD a 0 && isIntD b 0) := rfl
              rw [e2] at fail good
              refine s_seq (fun ρ S3 => S3 = S2 ∧ ρ = [some (.int 1), some (.fl ds), some (.tup [a, b]), none, none, none, none, none, none, none, none, none]) ?_ ?_
              · simp [isi_tT]
              rintro ρ S3 ⟨rfl, rfl⟩
              simp [a0, a1]
              refine hC a 0 _ _ _ (ta _) ?_
              cases ha0 : isIntD a 0 with
              | false =>
                rw [ha0] at fail
                simp
                exact fail rfl
              | true =>
                simp
                refine hC b 0 _ _ _ (tb _) ?_
                rw [ha0] at fail good
                cases hb0 : isIntD b 0 with
                | false =>
                  rw [hb0] at fail
                  simp
                  exact fail rfl
                | true =>
                  rw [hb0] at good
                  simp
                  exact good rfl _
            · have hq := fail (isPtD_len hl3)
              have h4 : ¬ ((es.length : Nat) : Int) = 2 := by omega
              refine s_seq (fun _ _ => False) ?_ (fun _ _ z => z.elim)
              simp [isi_tT, h4]
              exact hq
          · have hq := fail rfl
            refine s_seq (fun _ _ => False) ?_ (fun _ _ z => z.elim)
            simp [isi_fT]
            exact hq
          · have hq := fail (by
              unfold isPtD
              split
              · exact absurd rfl (n3 _)
              · rfl)
            refine s_seq (fun _ _ => False) ?_ (fun _ _ z => z.elim)
            simp [n2]
            exact hq
        · intro ρ S2 hz
          obtain ⟨rfl, hr, ha, w2, rfl⟩ := (hI _ _ _).mp hz
          exact (hP _ _).mpr ⟨rfl, ha, w2, rfl⟩
      intro ρ S3 hz
      obtain ⟨rfl, ha, u2, rfl⟩ := (hP _ _).mp hz
      obtain ⟨l, hle, nl, ll, sl⟩ := path_of (n := jj + 1) (m := m) (v := .fl ds) ⟨hl, hd⟩ (by rw [ea]; exact ha)
      have hq := hQ l hle (by rw [ea]; exact ha)
      injection hle with hle
      subst hle
      have jo : ((l.map wP).map (·.length)).sum + (l.map wP).length * (" " : Str).length ≤ 16777216 := by
        have h1 : ((l.map wP).map (·.length)).sum ≤ 201 * l.length := by
          rw [List.map_map]
          exact sum_le fun p hp => wP_len (sl p hp)
        have h2 : (" " : Str).length = 1 := by with_unfolding_all rfl
        rw [h2, List.length_map]
        omega
      clear hQ hE ea ne
      simp
      refine lc_m (m := l) (enc := encPt) (fun p => .str (wP p)) (by unfold sizeLine; omega) (fun p hp => ?_) ?_
      · have h := sl p hp
        have e1 : Str.ofString p.1.repr = numS p.1.toNat := numS_of h.x0
        have e2 : Str.ofString p.2.repr = numS p.2.toNat := numS_of h.y0
        have h1 := nl100 h.x0 h.x1
        have h2 := nl100 h.y0 h.y1
        have h3 : (numS p.1.toNat ++ ",").length = (numS p.1.toNat).length + (",": Str).length := Str.length_append _ _
        simp [encPt]
        rw [e1, e2]
        refine ⟨by simpa using log_ok h.x0 h.x1, by rw [numS_len, com_len]; unfold sizeLine; omega, by simpa using log_ok h.y0 h.y1, ?_, rfl⟩
        rw [h3, numS_len, com_len, numS_len]
        unfold sizeLine
        omega
      · have e : l.map (fun p => D.str (wP p)) = (l.map wP).map D.str := by rw [List.map_map]; rfl
        rw [e, fr_new (ltL_map' fun _ => by simp), e_joiF jo]
        simp
        exact hq
  · have hq := hE (by
      unfold isPathD
      split
      · exact absurd rfl (n4 _)
      · rfl)
    refine s_seq (fun _ _ => False) ?_ (fun _ _ z => z.elim)
    simp [n1]
    exact hq
end
end CC
namespace CC
open PySem PySem.Spec PyProof.Rows L2 TL
theorem Tx.txo {n L : Nat} {x : Str} (h : Tx n L (tl x)) (hn : n ≤ 640) (hL : L ≤ 100000) : TxO x := by
  have hz : 200000 ≤ sizeLine := by decide
  have hl := h.len
  refine ⟨by rw [len_tl]; omega, fun p hp => ?_, fun w hw => ?_, h.chr⟩
  · have h1 := spl_len p hp
    refine ⟨by omega, fun w hw => ?_⟩
    obtain ⟨a, b, e⟩ := spl_part_of _ _ p hp
    have sp := h.sg.sub e
    obtain ⟨a2, b2, e2⟩ := spl_part_of _ _ w hw
    exact Nat.le_trans (sp a2 w b2 e2 (spl_free p [] (by simp) w hw)) hn
  · have h1 := spl_len w hw
    refine ⟨by omega, fun p hp => ?_⟩
    obtain ⟨a, b, e⟩ := spl_part_of _ _ w hw
    have hfw := spl_free _ [] (by simp) w hw
    have hw2 := h.sg a w b e hfw
    have := spl_len p hp
    omega
section
variable {P : Sto → Prop}
theorem Rw_fl4 {n w1 w2 w3 w4 x : Nat} {a b c d : D} (h1 : Rw P n w1 a) (h2 : Rw P n w2 b) (h3 : Rw P n w3 c) (h4 : Rw P n w4 d) (hx : w1 + w2 + w3 + w4 + 11 ≤ x) : Rw P (n + 1) x (.fl [a, b, c, d]) := by
  obtain ⟨p1, a1, a2, a3, a4, a5⟩ := h1
  obtain ⟨p2, b1, b2, b3, b4, b5⟩ := h2
  obtain ⟨p3, c1, c2, c3, c4, c5⟩ := h3
  obtain ⟨p4, d1, d2, d3, d4, d5⟩ := h4
  refine ⟨.list [p1, p2, p3, p4], fun S m hS hm => ?_, by simp only [PyData.showable, PyData.showableAll, a2, b2, c2, d2, Bool.and_self], by simp only [dic0, dic0s, a3, b3, c3, d3, Bool.and_self], by simp only [PyData.depth, PyData.depthAll]; omega, by simp only [shB, shBs]; omega⟩
  cases m with
  | zero => omega
  | succ m =>
    show ([a, b, c, d].mapM (toQ S m)).map PyData.list = _
    rw [List.mapM_cons, List.mapM_cons, List.mapM_cons, List.mapM_cons, a1 S m hS (by omega), b1 S m hS (by omega), c1 S m hS (by omega), d1 S m hS (by omega), List.mapM_nil]
    rfl
theorem Rw_txt {n L : Nat} {x : Str} (hc : ∀ c ∈ tl x, c < 256) (hl : x.length ≤ L) : Rw P n (10 * L + 2) (.str x) := by
  refine Rw_str (Nat.le_trans (PySem.StrLaws.reprText_len x fun c h => Nat.lt_trans (hc c h) (by decide)) ?_)
  omega
theorem rdN_lt {l : List Nat} {v n : Nat} (h : rdN l = some v) (hl : l.length ≤ n) : v < 10 ^ n := by
  unfold rdN at h
  split at h
  · cases h
  · rename_i h1
    split at h
    · cases h
    · injection h with h
      subst h
      have ad : l.all isDg = true := by
        cases hh : l.all isDg with
        | true => rfl
        | false => exact absurd (.inr (by rw [hh]; decide)) h1
      exact Nat.lt_of_lt_of_le (dgv_lt l (isDg_all ad)) (Nat.pow_le_pow_right (by decide) hl)
theorem pow_10_2 : ∀ n : Nat, 10 ^ n ≤ 2 ^ (4 * n)
  | 0 => by decide
  | n + 1 => by
    have h := pow_10_2 n
    rw [Nat.pow_succ, show 4 * (n + 1) = 4 * n + 4 from by omega, Nat.pow_add]
    have : (2 : Nat) ^ 4 = 16 := by decide
    rw [this]
    exact Nat.mul_le_mul h (by decide)
theorem Rw_num {v n : Nat} (h : v < 10 ^ n) (hn : n ≤ 400) {m w : Nat} (hw : 4 * n + 4 ≤ w) : Rw P m w (.int (v : Nat)) := by
  have h1 := pow_10_2 n
  have h2 : (2 : Nat) ^ (4 * n) ≤ 2 ^ (4 * n + 1) := Nat.pow_le_pow_right (by decide) (by omega)
  have h3 : v < 2 ^ (4 * n + 1) := by omega
  exact Rw_nat (4 * n + 1) (by omega) (by exact_mod_cast h3) (by omega) (by omega) (by omega)
theorem Rw_OR {l : List Nat} {n : Nat} (hl : l.length ≤ n) (hc : ∀ c ∈ l, c < 256) (hn : n ≤ 400) : Rw P 1 (8 * n + 40) (encOR (rdR l)) := by
  cases l with
  | nil => exact Rw_non (by omega)
  | cons c l =>
    have e : rdR (c :: l) = (rdN l).map fun n => (c, n) := rfl
    rw [e]
    cases h : rdN l with
    | none => exact Rw_non (by omega)
    | some v =>
      rw [List.length_cons] at hl
      have hv := rdN_lt (n := n) h (by omega)
      refine Rw_tup (n := 0) (w := 4 * n + 13) (ds := [.str (mkS [c]), .int (v : Nat)]) (fun d hd => ?_) (by show 2 * (4 * n + 13 + 2) + 3 ≤ _; omega)
      simp only [List.mem_cons, List.not_mem_nil, or_false] at hd
      rcases hd with rfl | rfl
      · refine (Rw_txt (n := 0) (L := 1) (x := mkS [c]) (fun d hd => ?_) (by rw [mkS_len]; exact Nat.le_refl _)).le (Nat.le_refl _) (by omega)
        rw [tl_mkS, List.mem_singleton] at hd
        subst hd
        exact hc _ List.mem_cons_self
      · exact Rw_num hv hn (by omega)
theorem Rw_OP {l : List Nat} {n : Nat} (hl : l.length ≤ n) (hn : n ≤ 400) : Rw P 1 (8 * n + 40) (encOP (rdP l)) := by
  cases h : rdP l with
  | none => exact Rw_non (by omega)
  | some r =>
    obtain ⟨a, b⟩ := r
    unfold rdP at h
    split at h
    · rename_i x y hs
      injection h with h
      injection h with h1 h2
      subst h1 h2
      obtain ⟨p, q, hpq⟩ : ∃ p q, spl [44] 0 [] l = [p, q] := by
        have hl2 : (spl [44] 0 [] l).length = 2 := by
          have := congrArg List.length hs
          simpa using this
        match hh : spl [44] 0 [] l, hl2 with
        | [p, q], _ => exact ⟨p, q, rfl⟩
      rw [hpq] at hs
      injection hs with e1 e2
      injection e2 with e2 _
      have lp := spl_len (S := [44]) (l := l) p (by rw [hpq]; simp)
      have lq := spl_len (S := [44]) (l := l) q (by rw [hpq]; simp)
      have ha := rdN_lt (n := n) e1 (by omega)
      have hb := rdN_lt (n := n) e2 (by omega)
      refine Rw_tup (n := 0) (w := 4 * n + 13) (ds := [.int (_ : Nat), .int (_ : Nat)]) (fun d hd => ?_) (by show 2 * (4 * n + 13 + 2) + 3 ≤ _; omega)
      simp only [List.mem_cons, List.not_mem_nil, or_false] at hd
      rcases hd with rfl | rfl
      · exact Rw_num ha hn (by omega)
      · exact Rw_num hb hn (by omega)
    · cases h
def wdB (n L : Nat) : Nat := (L + 2) * (8 * n + 42) + 3
theorem spl_cnt {s : Nat} {S l : List Nat} {y : Str} (hy : tl y = s :: S) (hk : y.cps.all (· < 256) = true) : (spl (s :: S) 0 [] l).length ≤ l.length + 2 := by
  have h := PyProof.Rows.split_le (mkS l) y
  rw [split_gen hy (by simp) hk, List.length_map, mkS_len, tl_mkS] at h
  exact h
theorem Rw_rn {n L : Nat} {p : List Nat} (h : Tx n L p) (hn : n ≤ 400) : Rw P 2 (wdB n L) (rnD (spl [32] 0 [] p)) := by
  have hc := spl_cnt (l := p) spc_tl (by with_unfolding_all rfl)
  refine Rw_tup (n := 1) (w := 8 * n + 40) (fun d hd => ?_) (by
    rw [List.length_map]
    unfold wdB
    have := h.len
    exact Nat.add_le_add_right (Nat.mul_le_mul_right _ (by omega)) _)
  obtain ⟨w, hw, rfl⟩ := List.mem_map.mp hd
  obtain ⟨a, b, e⟩ := spl_part_of _ _ w hw
  exact Rw_OR (h.sg a w b e (spl_free p [] (by simp) w hw)) (fun c hcw => h.chr c (by rw [e]; exact List.mem_append_right _ (List.mem_append_left _ hcw))) hn
theorem Tx.sub {n L : Nat} {l a p b : List Nat} (h : Tx n L l) (e : l = a ++ (p ++ b)) : Tx n L p := by
  refine ⟨h.sg.sub e, ?_, fun c hc => h.chr c (by rw [e]; exact List.mem_append_right _ (List.mem_append_left _ hc))⟩
  have := congrArg List.length e
  rw [List.length_append, List.length_append] at this
  have := h.len
  omega
theorem Rw_rC {n L : Nat} {l : List Nat} (h : Tx n L l) (hn : n ≤ 400) (hc : isCityD (rdC l) = true) : Rw P 3 (2 * wdB n L + 7) (rdC l) := by
  rw [rdC_eq] at hc ⊢
  have h2 : (spl [32, 124, 32] 0 [] l).length = 2 := by
    rcases Nat.decEq (spl [32, 124, 32] 0 [] l).length 2 with c | c
    · rw [isCityD_len (by rw [List.length_map]; exact c)] at hc
      cases hc
    · exact c
  refine Rw_tup (n := 2) (w := wdB n L) (fun d hd => ?_) (by rw [List.length_map, h2]; omega)
  obtain ⟨p, hp, rfl⟩ := List.mem_map.mp hd
  obtain ⟨a, b, e⟩ := spl_part_of _ _ p hp
  exact Rw_rn (h.sub e) hn
theorem Rw_rD {n L : Nat} {l : List Nat} (h : Tx n L l) (hn : n ≤ 400) : Rw P 2 (wdB n L) (.fl ((rdD l).map encOP)) := by
  have hc := spl_cnt (l := l) spc_tl (by with_unfolding_all rfl)
  refine Rw_fl (n := 1) (w := 8 * n + 40) (fun d hd => ?_) (by
    rw [List.length_map]
    unfold rdD
    rw [List.length_map]
    unfold wdB
    have := h.len
    exact Nat.add_le_add_right (Nat.mul_le_mul_right _ (by omega)) _)
  obtain ⟨o, ho, rfl⟩ := List.mem_map.mp hd
  obtain ⟨w, hw, rfl⟩ := List.mem_map.mp ho
  obtain ⟨a, b, e⟩ := spl_part_of _ _ w hw
  exact Rw_OP (h.sg a w b e (spl_free l [] (by simp) w hw)) hn
end
section
variable {k : Nat} {v : D} {S : Sto} {Q : D → Sto → Prop} {E : Nat → List D → Sto → Prop}
def Ans (C : CallSem) (f : Nat) (v : D) (c : Nat) (r : Option D) : Prop := ∀ (Q : D → Sto → Prop) (E : Nat → List D → Sto → Prop) (S : Sto), (match r with
  | some x => Q x S
  | none => E c [] S) → WR (C f [v] S) Q E
def orN : Option D → D
  | some x => x
  | none => .non
theorem w_told {nm : Bool} {r0 r1 r2 r3 : Option D} (h0 : Ans (CF (k + 5)) f_parse_city v 7 r0) (h1 : Ans (CF (k + 5)) f_parse_drive v 7 r1) (h2 : Ans (CF (k + 5)) f_format_city v 1 r2) (h3 : Ans (CF (k + 5)) f_format_drive v 5 r3)
    (lt : ∀ j, (orN r0).lt j = true ∧ (orN r1).lt j = true ∧ (orN r2).lt j = true ∧ (orN r3).lt j = true) :
    (∀ Q E (S : Sto), Q (orN r0) S → WR (CF (k + 6) f__law_told [.int 0, v, .bl nm] S) Q E) ∧ (∀ Q E (S : Sto), Q (orN r1) S → WR (CF (k + 6) f__law_told [.int 1, v, .bl nm] S) Q E) ∧
    (∀ Q E (S : Sto), Q (orN r2) S → WR (CF (k + 6) f__law_told [.int 2, v, .bl nm] S) Q E) ∧ ∀ Q E (S : Sto), Q (orN r3) S → WR (CF (k + 6) f__law_told [.int 3, v, .bl nm] S) Q E := by
  have start : ∀ (d : Int) Q E (S : Sto), Ws (run W (CF (k + 5)) G bd__law_told [some (.int d), some v, some (.bl nm), none] S) { nx := fun _ S' => Q .non (CC.cutS S true S'), rt := fun d S' => Q d (CC.cutS S (d.lt S.length) S'), bk := fun _ _ => False, ct := fun _ _ => False, ex := fun c q _ S' => E c q (CC.cutS S (ltL S.length q) S') } → WR (CF (k + 6) f__law_told [.int d, v, .bl nm] S) Q E := fun d Q E S h => by
    rw [cf_run (fd := fd__law_told) rfl rfl]
    exact h
  generalize CF (k + 5) = C at *
  have k71 : List.lookup 7 [(0, false), (1, false), (5, false), (7, true)] = some true := rfl
  have k11 : List.lookup 1 [(0, false), (1, false), (5, false), (7, true)] = some false := rfl
  have k12 : List.lookup 1 [(0, false), (1, true), (5, false), (7, false)] = some true := rfl
  have k51 : List.lookup 5 [(0, false), (1, false), (5, false), (7, true)] = some false := rfl
  have k52 : List.lookup 5 [(0, false), (1, true), (5, false), (7, false)] = some false := rfl
  have k53 : List.lookup 5 [(0, false), (1, false), (5, true), (7, false)] = some true := rfl
  have e00 : ∀ S, cmpD .Eq (.int 0) (.int 0) S = some true := fun _ => rfl
  have e10 : ∀ S, cmpD .Eq (.int 1) (.int 0) S = some false := fun _ => rfl
  have e11 : ∀ S, cmpD .Eq (.int 1) (.int 1) S = some true := fun _ => rfl
  have e20 : ∀ S, cmpD .Eq (.int 2) (.int 0) S = some false := fun _ => rfl
  have e21 : ∀ S, cmpD .Eq (.int 2) (.int 1) S = some false := fun _ => rfl
  have e22 : ∀ S, cmpD .Eq (.int 2) (.int 2) S = some true := fun _ => rfl
  have e30 : ∀ S, cmpD .Eq (.int 3) (.int 0) S = some false := fun _ => rfl
  have e31 : ∀ S, cmpD .Eq (.int 3) (.int 1) S = some false := fun _ => rfl
  have e32 : ∀ S, cmpD .Eq (.int 3) (.int 2) S = some false := fun _ => rfl
  have e33 : ∀ S, cmpD .Eq (.int 3) (.int 3) S = some true := fun _ => rfl
  refine ⟨fun Q E S hq => start 0 _ _ _ ?_, fun Q E S hq => start 1 _ _ _ ?_, fun Q E S hq => start 2 _ _ _ ?_, fun Q E S hq => start 3 _ _ _ ?_⟩
  · unfold bd__law_told
    have l0 := fun j => (lt j).1
    refine s_seq (fun ρ S1 => S1 = S ∧ ρ = [some (.int 0), some v, some (.bl nm), some .non]) (by simp) ?_
    rintro ρ S1 ⟨rfl, rfl⟩
    refine s_seq (fun ρ S1' => S1' = S1 ∧ ρ = [some (.int 0), some v, some (.bl nm), some (orN r0)]) ?_ ?_
    · cases nm
      all_goals
        simp
        refine h0 _ _ _ ?_
        cases r0 with
        | none => simp [orN, k71, k11, k12, k51, k52, k53]
        | some x => simp [orN]
    rintro ρ S2 ⟨rfl, rfl⟩
    simp [l0]
    exact hq
  · unfold bd__law_told
    have l0 := fun j => (lt j).2.1
    refine s_seq (fun ρ S1 => S1 = S ∧ ρ = [some (.int 1), some v, some (.bl nm), some .non]) (by simp) ?_
    rintro ρ S1 ⟨rfl, rfl⟩
    refine s_seq (fun ρ S1' => S1' = S1 ∧ ρ = [some (.int 1), some v, some (.bl nm), some (orN r1)]) ?_ ?_
    · cases nm
      all_goals
        simp
        refine h1 _ _ _ ?_
        cases r1 with
        | none => simp [orN, k71, k11, k12, k51, k52, k53]
        | some x => simp [orN]
    rintro ρ S2 ⟨rfl, rfl⟩
    simp [l0]
    exact hq
  · unfold bd__law_told
    have l0 := fun j => (lt j).2.2.1
    refine s_seq (fun ρ S1 => S1 = S ∧ ρ = [some (.int 2), some v, some (.bl nm), some .non]) (by simp) ?_
    rintro ρ S1 ⟨rfl, rfl⟩
    refine s_seq (fun ρ S1' => S1' = S1 ∧ ρ = [some (.int 2), some v, some (.bl nm), some (orN r2)]) ?_ ?_
    · cases nm
      all_goals
        simp
        refine h2 _ _ _ ?_
        cases r2 with
        | none => simp [orN, k71, k11, k12, k51, k52, k53]
        | some x => simp [orN]
    rintro ρ S2 ⟨rfl, rfl⟩
    simp [l0]
    exact hq
  · unfold bd__law_told
    have l0 := fun j => (lt j).2.2.2
    refine s_seq (fun ρ S1 => S1 = S ∧ ρ = [some (.int 3), some v, some (.bl nm), some .non]) (by simp) ?_
    rintro ρ S1 ⟨rfl, rfl⟩
    refine s_seq (fun ρ S1' => S1' = S1 ∧ ρ = [some (.int 3), some v, some (.bl nm), some (orN r3)]) ?_ ?_
    · cases nm
      all_goals
        simp
        refine h3 _ _ _ ?_
        cases r3 with
        | none => simp [orN, k71, k11, k12, k51, k52, k53]
        | some x => simp [orN]
    rintro ρ S2 ⟨rfl, rfl⟩
    simp [l0]
    exact hq
theorem w_rightG {nm : Bool} {r0 r1 r2 r3 : Option D} {tv tf : Str} (h0 : Ans (CF (k + 5)) f_parse_city v 7 r0) (h1 : Ans (CF (k + 5)) f_parse_drive v 7 r1) (h2 : Ans (CF (k + 5)) f_format_city v 1 r2) (h3 : Ans (CF (k + 5)) f_format_drive v 5 r3)
    (lt : ∀ j, (orN r0).lt j = true ∧ (orN r1).lt j = true ∧ (orN r2).lt j = true ∧ (orN r3).lt j = true)
    (d0 : ∀ Q E (S : Sto), Q (orN r0) S → WR (CF (k + 6) f__law_read [.int 0, v] S) Q E) (d1 : ∀ Q E (S : Sto), Q (orN r1) S → WR (CF (k + 6) f__law_read [.int 1, v] S) Q E)
    (d2 : ∀ Q E (S : Sto), Q (orN r2) S → WR (CF (k + 6) f__law_written [.int 0, v] S) Q E) (d3 : ∀ Q E (S : Sto), Q (orN r3) S → WR (CF (k + 6) f__law_written [.int 1, v] S) Q E)
    (hv : ∀ S, repD v S = some (.str tv)) (hf : ∀ S, repD (.fl [orN r0, orN r1, orN r2, orN r3]) S = some (.str tf)) (hQ : Q (.bl true) S) : WR (CF (k + 7) f__law_right [v, .bl nm] S) Q E := by
  obtain ⟨t0, t1, t2, t3⟩ := w_told (k := k) (nm := nm) h0 h1 h2 h3 lt
  clear h0 h1 h2 h3
  have l0 := fun j => (lt j).1
  have l1 := fun j => (lt j).2.1
  have l2 := fun j => (lt j).2.2.1
  have l3 := fun j => (lt j).2.2.2
  clear lt
  generalize orN r0 = R0 at *
  generalize orN r1 = R1 at *
  generalize orN r2 = R2 at *
  generalize orN r3 = R3 at *
  have sE : ∀ (z : Str) T, cmpD .Eq (.str z) (.str z) T = some true := fun z T => by
    show some (z == z) = _
    simp
  rw [cf_run (fd := fd__law_right) rfl rfl]
  show Ws (run W (CF (k + 6)) G bd__law_right [some v, some (.bl nm), none, none, none, none] S) _
  unfold bd__law_right
  generalize CF (k + 6) = C at *
  refine s_seq (fun ρ S1 => S1 = S ∧ ρ = [some v, some (.bl nm), some (.str tv), none, none, none]) ?_ ?_
  · simp [hv]
  rintro ρ S1 ⟨rfl, rfl⟩
  refine s_seq (fun ρ S2 => S2 = S1 ∧ ρ = [some v, some (.bl nm), some (.str tv), some (.fl [R0, R1, R2, R3]), none, none]) ?_ ?_
  · simp
    refine d0 _ _ _ ?_
    refine d1 _ _ _ ?_
    refine d2 _ _ _ ?_
    refine d3 _ _ _ ?_
    rw [fr_new (by simp [l0, l1, l2, l3])]
    simp
  rintro ρ S2 ⟨rfl, rfl⟩
  obtain ⟨P, hP⟩ : ∃ P : Env → Sto → Prop, ∀ ρ S3, P ρ S3 ↔ ∃ K, S3 = S2 ++ K ∧ ρ = [some v, some (.bl nm), some (.str tv), some (.fl [R0, R1, R2, R3]), some (.fl [R0, R1, R2, R3]), none] := ⟨_, fun _ _ => Iff.rfl⟩
  refine s_seq P ?_ ?_
  · rw [s_fz]
    simp
    refine ⟨rfl, ?_⟩
    have rg : rangeD 0 4 = [((0 : Nat), R0), (1, R1), (2, R2), (3, R3)].map fun q => D.int (q.1 : Nat) := rfl
    rw [rg]
    refine lc_m (m := [((0 : Nat), R0), (1, R1), (2, R2), (3, R3)]) (enc := fun q => D.int (q.1 : Nat)) (fun q => q.2) (by simp [sizeLine]) (fun q hq => ?_) ?_
    · simp only [List.mem_cons, List.not_mem_nil, or_false] at hq
      rcases hq with rfl | rfl | rfl | rfl
      · simp
        refine t0 _ _ _ ?_
        simp
      · simp
        refine t1 _ _ _ ?_
        simp
      · simp
        refine t2 _ _ _ ?_
        simp
      · simp
        refine t3 _ _ _ ?_
        simp
    · refine fz_any0 rfl (ds := [R0, R1, R2, R3]) new_get (Nat.le_refl _) fun G1 => ?_
      exact (hP _ _).mpr ⟨G1, rfl, rfl⟩
  intro ρ S3 hz
  obtain ⟨K, rfl, rfl⟩ := (hP _ _).mp hz
  simp [hf, hv, sE]
  exact hQ
end
end CC
namespace CC
open PySem PySem.Spec PyProof.Rows L2 TL
def Bs : List Nat → D → Prop
  | _, .non => True
  | _, .bl _ => True
  | _, .int i => i.natAbs < 2 ^ 110
  | _, .str x => (reprText x).length ≤ 110 ∧ x.length ≤ 100 ∧ ∀ c ∈ tl x, c < 256
  | m :: ms, .tup ds => ds.length ≤ m ∧ ∀ d ∈ ds, Bs ms d
  | m :: ms, .fl ds => ds.length ≤ m ∧ ∀ d ∈ ds, Bs ms d
  | _ :: _, .fd ks ds => ks = [] ∧ ds = []
  | _, _ => False
theorem bs_non {ms : List Nat} : Bs ms .non := by cases ms <;> trivial
theorem bs_bl {ms : List Nat} {b : Bool} : Bs ms (.bl b) := by cases ms <;> trivial
theorem bs_int {ms : List Nat} {i : Int} : Bs ms (.int i) = (i.natAbs < 2 ^ 110) := by cases ms <;> rfl
theorem bs_str {ms : List Nat} {x : Str} : Bs ms (.str x) = ((reprText x).length ≤ 110 ∧ x.length ≤ 100 ∧ ∀ c ∈ tl x, c < 256) := by cases ms <;> rfl
theorem bs_cases : ∀ {ms : List Nat} {x : D}, Bs ms x → (∃ m r ds, ms = m :: r ∧ (x = .tup ds ∨ x = .fl ds) ∧ ds.length ≤ m ∧ ∀ d ∈ ds, Bs r d) ∨ (x = .fd [] [] ∧ ms ≠ []) ∨ (x = .non ∨ (∃ b, x = .bl b) ∨ (∃ i : Int, x = .int i ∧ i.natAbs < 2 ^ 110) ∨ ∃ s : Str, x = .str s ∧ (reprText s).length ≤ 110 ∧ s.length ≤ 100 ∧ ∀ c ∈ tl s, c < 256)
  | _, .non, _ => .inr (.inr (.inl rfl))
  | _, .bl _, _ => .inr (.inr (.inr (.inl ⟨_, rfl⟩)))
  | _, .int i, h => .inr (.inr (.inr (.inr (.inl ⟨i, rfl, by rw [bs_int] at h; exact h⟩))))
  | _, .str x, h => .inr (.inr (.inr (.inr (.inr ⟨x, rfl, by rw [bs_str] at h; exact h⟩))))
  | m :: r, .tup ds, h => .inl ⟨m, r, ds, rfl, .inl rfl, h.1, h.2⟩
  | m :: r, .fl ds, h => .inl ⟨m, r, ds, rfl, .inr rfl, h.1, h.2⟩
  | m :: r, .fd ks ds, h => .inr (.inl ⟨by obtain ⟨rfl, rfl⟩ := h; rfl, by simp⟩)
  | [], .tup _, h => h.elim
  | [], .fl _, h => h.elim
  | [], .fd _ _, h => h.elim
  | [], .loc _, h => h.elim
  | _ :: _, .loc _, h => h.elim
  | [], .fm _ _, h => h.elim
  | _ :: _, .fm _ _, h => h.elim
  | [], .bd _, h => h.elim
  | _ :: _, .bd _, h => h.elim
  | [], .exn _ _, h => h.elim
  | _ :: _, .exn _ _, h => h.elim
  | [], .ty _, h => h.elim
  | _ :: _, .ty _, h => h.elim
  | [], .fn _, h => h.elim
  | _ :: _, .fn _, h => h.elim
  | [], .cls _, h => h.elim
  | _ :: _, .cls _, h => h.elim
theorem Bs.atom {ms : List Nat} {x : D} (h : Bs [] x) : Bs ms x := by
  rcases bs_cases h with ⟨m, r, ds, e, _⟩ | ⟨_, e⟩ | rfl | ⟨b, rfl⟩ | ⟨i, rfl, hi⟩ | ⟨s, rfl, hs⟩
  · cases e
  · exact absurd rfl e
  · exact bs_non
  · exact bs_bl
  · rw [bs_int]; exact hi
  · rw [bs_str]; exact hs
def bump (ms : List Nat) : List Nat := ms.map (· + 1) ++ [3]
theorem Bs.bump : ∀ {ms : List Nat} {x : D}, Bs ms x → Bs (CC.bump ms) x
  | [], x, h => h.atom
  | m :: r, x, h => by
    rcases bs_cases h with ⟨m', r', ds, e, hx, hl, hd⟩ | ⟨rfl, _⟩ | rfl | ⟨b, rfl⟩ | ⟨i, rfl, hi⟩ | ⟨s, rfl, hs⟩
    · cases e
      have e2 : CC.bump (m :: r) = (m + 1) :: CC.bump r := rfl
      rw [e2]
      rcases hx with rfl | rfl
      · exact ⟨by omega, fun d hd2 => (hd d hd2).bump⟩
      · exact ⟨by omega, fun d hd2 => (hd d hd2).bump⟩
    · exact ⟨rfl, rfl⟩
    · exact bs_non
    · exact bs_bl
    · rw [bs_int]; exact hi
    · rw [bs_str]; exact hs
theorem Bs.wide {k m : Nat} {r : List Nat} {x : D} (h : Bs [k] x) (hk : k ≤ m) : Bs (m :: r) x := by
  rcases bs_cases h with ⟨m', r', ds, e, hx, hl, hd⟩ | ⟨rfl, _⟩ | rfl | ⟨b, rfl⟩ | ⟨i, rfl, hi⟩ | ⟨s, rfl, hs⟩
  · cases e
    rcases hx with rfl | rfl
    · exact ⟨by omega, fun d hd2 => (hd d hd2).atom⟩
    · exact ⟨by omega, fun d hd2 => (hd d hd2).atom⟩
  · exact ⟨rfl, rfl⟩
  · exact bs_non
  · exact bs_bl
  · rw [bs_int]; exact hi
  · rw [bs_str]; exact hs
theorem Bs.bn {M : Nat} : ∀ {ms : List Nat} {x : D}, Bs ms x → (∀ m ∈ ms, m ≤ M) → Bn ms.length M x
  | ms, x, h, hM => by
    have two : 2 ^ 110 < 10 ^ 100 := by decide +kernel
    rcases bs_cases h with ⟨m', r', ds, rfl, hx, hl, hd⟩ | ⟨rfl, hne⟩ | rfl | ⟨b, rfl⟩ | ⟨i, rfl, hi⟩ | ⟨s, rfl, hs⟩
    · have h1 := hM m' List.mem_cons_self
      rcases hx with rfl | rfl
      · exact ⟨by omega, fun d hd2 => (hd d hd2).bn fun m hm => hM m (List.mem_cons_of_mem _ hm)⟩
      · exact ⟨by omega, fun d hd2 => (hd d hd2).bn fun m hm => hM m (List.mem_cons_of_mem _ hm)⟩
    · cases ms with
      | nil => exact absurd rfl hne
      | cons m r => exact ⟨rfl, rfl⟩
    · exact bn_non
    · exact bn_bl
    · rw [bn_int]; exact Nat.lt_trans hi two
    · rw [bn_str]; exact ⟨by omega, hs.2.1, hs.2.2⟩
termination_by ms => ms.length
decreasing_by all_goals (subst_vars; simp)
def wS : List Nat → Nat
  | [] => 120
  | m :: ms => m * (wS ms + 2) + 3 + 120
theorem wS_ge : ∀ ms : List Nat, 120 ≤ wS ms
  | [] => Nat.le_refl _
  | m :: ms => by show 120 ≤ m * (wS ms + 2) + 3 + 120; omega
theorem Bs.rw {P : Sto → Prop} : ∀ {ms : List Nat} {x : D}, Bs ms x → Rw P ms.length (wS ms) x
  | ms, x, h => by
    have hw := wS_ge ms
    rcases bs_cases h with ⟨m', r', ds, rfl, hx, hl, hd⟩ | ⟨rfl, hne⟩ | rfl | ⟨b, rfl⟩ | ⟨i, rfl, hi⟩ | ⟨s, rfl, hs⟩
    · have h1 : ds.length * (wS r' + 2) + 3 ≤ wS (m' :: r') := by
        have := Nat.mul_le_mul_right (wS r' + 2) hl
        show _ ≤ m' * (wS r' + 2) + 3 + 120
        omega
      rcases hx with rfl | rfl
      · exact Rw_tup (fun d hd2 => (hd d hd2).rw) h1
      · exact Rw_fl (fun d hd2 => (hd d hd2).rw) h1
    · refine Rw_dic ?_ (by omega)
      cases ms with
      | nil => exact absurd rfl hne
      | cons m r => simp
    · exact Rw_non (by omega)
    · exact Rw_bl (by omega)
    · have hl : i.natAbs.log2 < 110 := by
        by_cases z : i.natAbs = 0
        · rw [z]; decide
        · exact (Nat.log2_lt z).mpr hi
      exact Rw_int (by omega) (by omega)
    · exact Rw_str (by omega)
termination_by ms => ms.length
decreasing_by all_goals (subst_vars; simp)
section
variable {k : Nat} {v : D} {S : Sto} {Q : D → Sto → Prop} {E : Nat → List D → Sto → Prop}
theorem a_pcity_no (hi : ∀ S, isinst v (.ty "str") S = some false) : Ans (CF (k + 1)) f_parse_city v 7 none := fun Q E S h => by
  rw [cf_run (fd := fd_parse_city) rfl rfl]
  show Ws (run W (CF k) G bd_parse_city [some v, none, none, none] S) _
  unfold bd_parse_city
  generalize CF k = C at *
  refine s_seq (fun _ _ => False) ?_ (fun _ _ z => z.elim)
  simp [hi]
  exact h
theorem a_pdrive_no (hi : ∀ S, isinst v (.ty "str") S = some false) : Ans (CF (k + 1)) f_parse_drive v 7 none := fun Q E S h => by
  rw [cf_run (fd := fd_parse_drive) rfl rfl]
  show Ws (run W (CF k) G bd_parse_drive [some v, none, none] S) _
  unfold bd_parse_drive
  generalize CF k = C at *
  refine s_seq (fun _ _ => False) ?_ (fun _ _ z => z.elim)
  simp [hi]
  exact h
theorem a_fcity_str {x : Str} : Ans (CF (k + 5)) f_format_city (.str x) 1 none := fun Q E S h => by
  have ic : ∀ Q E (S : Sto), Q (.bl false) S → WR (CF (k + 4) f_is_city [.str x] S) Q E := fun Q E S h => by
    have hn : Nice 4 (.str x) S := ⟨rfl, fun _ e => nomatch e⟩
    rw [e_is_city (k := k) hn]
    exact h
  rw [cf_run (fd := fd_format_city) rfl rfl]
  show Ws (run W (CF (k + 4)) G bd_format_city [some (.str x)] S) _
  unfold bd_format_city
  generalize CF (k + 4) = C at *
  refine s_seq (fun _ _ => False) ?_ (fun _ _ z => z.elim)
  simp
  refine ic _ _ _ ?_
  simp
  exact h
theorem a_fdrive_str {x : Str} : Ans (CF (k + 3)) f_format_drive (.str x) 5 none := fun Q E S h => by
  have hi : ∀ S, isinst (.str x) (.ty "list") S = some false := fun S => isi_list rfl
  have ip : ∀ Q E (S : Sto), Q (.bl false) S → WR (CF (k + 2) f_is_path [.str x] S) Q E := fun Q E S h => by
    rw [cf_run (fd := fd_is_path) rfl rfl]
    show Ws (run W (CF (k + 1)) G bd_is_path [some (.str x), none, none] S) _
    unfold bd_is_path
    generalize CF (k + 1) = C at *
    refine s_seq (fun _ _ => False) ?_ (fun _ _ z => z.elim)
    simp [hi]
    exact h
  rw [cf_run (fd := fd_format_drive) rfl rfl]
  show Ws (run W (CF (k + 2)) G bd_format_drive [some (.str x), none, none] S) _
  unfold bd_format_drive
  generalize CF (k + 2) = C at *
  refine s_seq (fun _ _ => False) ?_ (fun _ _ z => z.elim)
  simp
  refine ip _ _ _ ?_
  simp
  exact h
theorem w_written_str {x : Str} (hQ : Q .non S) : WR (CF (k + 1) f__law_written [.int 0, .str x] S) Q E ∧ WR (CF (k + 1) f__law_written [.int 1, .str x] S) Q E := by
  have hl : ∀ S, isinst (.str x) (.ty "list") S = some false := fun S => isi_list rfl
  have ht : ∀ S, isinst (.str x) (.ty "tuple") S = some false := fun S => isi_tuple rfl
  constructor
  · rw [cf_run (fd := fd__law_written) rfl rfl]
    show Ws (run W (CF k) G bd__law_written [some (.int 0), some (.str x), none, none, none, none, none, none, none, none, none, none] S) _
    unfold bd__law_written
    generalize CF k = C at *
    refine s_seq (fun ρ S1 => S1 = S ∧ ρ = [some (.int 0), some (.str x), none, none, none, none, none, none, none, none, none, none]) ?_ ?_
    · refine s_ifF rfl ?_
      exact ⟨rfl, rfl⟩
    rintro ρ S1 ⟨rfl, rfl⟩
    refine s_seq (fun _ _ => False) ?_ (fun _ _ z => z.elim)
    simp [ht]
    exact hQ
  · rw [cf_run (fd := fd__law_written) rfl rfl]
    show Ws (run W (CF k) G bd__law_written [some (.int 1), some (.str x), none, none, none, none, none, none, none, none, none, none] S) _
    unfold bd__law_written
    generalize CF k = C at *
    refine s_seq (fun _ _ => False) ?_ (fun _ _ z => z.elim)
    refine s_ifT rfl ?_
    refine s_seq (fun _ _ => False) ?_ (fun _ _ z => z.elim)
    simp [hl]
    exact hQ
theorem wdB_ge {n L : Nat} : 4 ≤ wdB n L := by
  unfold wdB
  have : 1 * (8 * n + 42) ≤ (L + 2) * (8 * n + 42) := Nat.mul_le_mul_right _ (by omega)
  omega
theorem w_right_text {nm : Bool} {x : Str} {n L : Nat} (h : Tx n L (tl x)) (hn : n ≤ 400) (hL : L ≤ 100000) (hW : 3 * wdB n L + 40 ≤ sizeLine) (hW2 : 10 * L + 2 ≤ sizeLine) (hQ : Q (.bl true) S) : WR (CF (k + 7) f__law_right [.str x, .bl nm] S) Q E := by
  have ho := h.txo (by omega) hL
  obtain ⟨r0, hr0⟩ : ∃ r0, r0 = if isCityD (rdC (tl x)) = true then some (rdC (tl x)) else none := ⟨_, rfl⟩
  obtain ⟨r1, hr1⟩ : ∃ r1, r1 = if none ∈ rdD (tl x) then none else some (D.fl ((rdD (tl x)).map encOP)) := ⟨_, rfl⟩
  have w0 : ∀ P : Sto → Prop, Rw P 3 (2 * wdB n L + 7) (orN r0) := fun P => by
    rw [hr0]
    split
    · rename_i hc
      exact Rw_rC h hn hc
    · exact Rw_non (by have := wdB_ge (n := n) (L := L); omega)
  have w1 : ∀ P : Sto → Prop, Rw P 3 (wdB n L) (orN r1) := fun P => by
    rw [hr1]
    split
    · exact Rw_non (by have := wdB_ge (n := n) (L := L); omega)
    · exact (Rw_rD h hn).le (by decide) (Nat.le_refl _)
  have wn : ∀ P : Sto → Prop, Rw P 3 4 (orN none) := fun P => Rw_non (Nat.le_refl _)
  obtain ⟨tf, htf⟩ := (Rw_fl4 (P := fun _ => True) (x := 3 * wdB n L + 40) (w0 _) (w1 _) (wn _) (wn _) (by omega)).rep (by decide) hW
  obtain ⟨tv, htv⟩ := (Rw_txt (P := fun _ => True) (n := 0) (L := L) (x := x) h.chr (by rw [len_tl]; exact h.len)).rep (by decide) hW2
  have lt0 : ∀ j, (orN r0).lt j = true := fun j => by
    rw [hr0]
    split
    · show D.lt j (rdC (tl x)) = true
      rw [rdC_eq, lt_tup]
      exact ltL_map' fun p => lt_rnD
    · simp [orN]
  have lt1 : ∀ j, (orN r1).lt j = true := fun j => by
    rw [hr1]
    split
    · simp [orN]
    · show D.lt j (.fl _) = true
      rw [lt_fl]
      exact ltL_map' fun o => by cases o <;> simp [encOP]
  refine w_rightG (k := k) (r0 := r0) (r1 := r1) (r2 := none) (r3 := none) (tv := tv) (tf := tf) (fun Q E S hq => ?_) (fun Q E S hq => ?_) (a_fcity_str (k := k)) (a_fdrive_str (k := k + 2)) (fun j => ⟨lt0 j, lt1 j, by simp [orN], by simp [orN]⟩) (fun Q E S hq => ?_) (fun Q E S hq => ?_) (fun Q E S hq => (w_written_str (k := k + 5) hq).1) (fun Q E S hq => (w_written_str (k := k + 5) hq).2) (fun S => htv S trivial) (fun S => htf S trivial) hQ
  · refine w_pcity_any (k := k) ho.len ho.city ?_
    rw [hr0] at hq
    by_cases hc : isCityD (rdC (tl x)) = true
    · rw [if_pos hc] at hq ⊢
      exact hq
    · rw [if_neg hc] at hq ⊢
      exact hq
  · refine w_pdrive_any (k := k + 2) ho.len ho.drive ?_
    rw [hr1] at hq
    by_cases hc : none ∈ rdD (tl x)
    · rw [if_pos hc] at hq ⊢
      exact hq
    · rw [if_neg hc] at hq ⊢
      exact hq
  · refine w_read0 (k := k + 3) ho ?_
    rw [hr0] at hq
    by_cases hc : isCityD (rdC (tl x)) = true
    · rw [if_pos hc] at hq ⊢
      exact hq
    · rw [if_neg hc] at hq ⊢
      exact hq
  · refine w_read1 (k := k + 3) ho ?_
    rw [hr1] at hq
    by_cases hc : none ∈ rdD (tl x)
    · rw [if_pos hc] at hq ⊢
      exact hq
    · rw [if_neg hc] at hq ⊢
      exact hq
theorem runsT_chr {l : Runs} (hs : ∀ p ∈ l, SmR p) : ∀ c ∈ tl (runsT l), c < 256 := by
  unfold runsT
  rw [join_eq, tl_join, spc_tl]
  intro c hc
  rcases joinL_mem hc with hc | ⟨w, hw, hc⟩
  · cases hc with
    | head => decide
    | tail _ h => cases h
  · rw [List.map_map] at hw
    obtain ⟨p, hp, rfl⟩ := List.mem_map.mp hw
    obtain ⟨d, h1, h2, e⟩ := wR_tl (hs p hp)
    have hc : c ∈ tl (wR p) := hc
    rw [e] at hc
    rcases List.mem_cons.mp hc with rfl | hc
    · omega
    · have := numL_digits _ c hc
      omega
theorem driveT_chr {l : List (Int × Int)} : ∀ c ∈ tl (driveT l), c < 256 := by
  unfold driveT
  rw [join_eq, tl_join, spc_tl]
  intro c hc
  rcases joinL_mem hc with hc | ⟨w, hw, hc⟩
  · cases hc with
    | head => decide
    | tail _ h => cases h
  · rw [List.map_map] at hw
    obtain ⟨p, hp, rfl⟩ := List.mem_map.mp hw
    have hc : c ∈ tl (wP p) := hc
    rw [wP_tl] at hc
    rcases List.mem_append.mp hc with hc | hc
    · have := numL_digits _ c hc
      omega
    · rcases List.mem_cons.mp hc with rfl | hc
      · decide
      · have := numL_digits _ c hc
        omega
theorem cityT_chr {a b : Runs} (ha : ∀ p ∈ a, SmR p) (hb : ∀ p ∈ b, SmR p) : ∀ c ∈ tl (cityT a b), c < 256 := by
  unfold cityT
  rw [tl_append, tl_append, bar_tl]
  intro c hc
  rcases List.mem_append.mp hc with hc | hc
  · rcases List.mem_append.mp hc with hc | hc
    · exact runsT_chr ha c hc
    · simp only [List.mem_cons, List.not_mem_nil, or_false] at hc
      rcases hc with rfl | rfl | rfl <;> decide
  · exact runsT_chr hb c hc
theorem w_right_val {nm : Bool} {ms : List Nat} (hv : Bs ms v) (hm : ∀ m ∈ ms, m ≤ 100) (hl : ms.length ≤ 40) (hw : wS ms ≤ 10000000) (hQ : Q (.bl true) S) : WR (CF (k + 7) f__law_right [v, .bl nm] S) Q E := by
  by_cases hs : ∃ x, v = .str x
  · obtain ⟨x, rfl⟩ := hs
    rw [bs_str] at hv
    exact w_right_text (n := 100) (L := 100) ⟨Sg.of_len (by rw [← len_tl]; exact hv.2.1), by rw [← len_tl]; exact hv.2.1, hv.2.2⟩ (by decide) (by decide) (by decide) (by decide) hQ
  · have hbn : Bn ms.length 100 v := hv.bn hm
    have hi : ∀ S, isinst v (.ty "str") S = some false := fun S => by
      rw [isi_str (bn_ty hbn (by decide) (by decide))]
      cases v <;> first | rfl | exact absurd ⟨_, rfl⟩ hs
    obtain ⟨r2, hr2⟩ : ∃ r2 : Option D, (isCityD v = false → r2 = none) ∧ (∀ a b, v = encC a b → isCityD v = true → r2 = some (.str (cityT a b))) := by
      cases hc : isCityD v with
      | false => exact ⟨none, fun _ => rfl, fun _ _ _ h => nomatch h⟩
      | true =>
        obtain ⟨a, b, rfl, _⟩ := city_of (by decide) hbn hc
        refine ⟨some (.str (cityT a b)), (fun h => nomatch h), fun a' b' h _ => ?_⟩
        have : a = a' ∧ b = b' := by
          have inj : ∀ l l' : Runs, encR l = encR l' → l = l' := fun l l' h => by
            injection h with h
            refine List.map_inj_right (fun p q e => ?_) |>.mp h
            injection e with e
            injection e with e1 e2
            injection e2 with e2 _
            injection e1 with e1
            injection e2 with e2
            exact Prod.ext e1 e2
          injection h with h
          injection h with h1 h2
          injection h2 with h2 _
          exact ⟨inj _ _ h1, inj _ _ h2⟩
        rw [this.1, this.2]
    obtain ⟨r3, hr3⟩ : ∃ r3 : Option D, (isPathD v = false → r3 = none) ∧ (∀ l, v = .fl (l.map encPt) → isPathD v = true → r3 = some (.str (driveT l))) := by
      cases hc : isPathD v with
      | false => exact ⟨none, fun _ => rfl, fun _ _ h => nomatch h⟩
      | true =>
        obtain ⟨l, rfl, _⟩ := path_of hbn hc
        refine ⟨some (.str (driveT l)), (fun h => nomatch h), fun l' h _ => ?_⟩
        have : l = l' := by
          injection h with h
          refine List.map_inj_right (fun p q e => ?_) |>.mp h
          injection e with e
          injection e with e1 e2
          injection e2 with e2 _
          injection e1 with e1
          injection e2 with e2
          exact Prod.ext e1 e2
        rw [this]
    have s2 : ∀ P : Sto → Prop, Rw P 3 300000 (orN r2) := fun P => by
      cases hc : isCityD v with
      | false => rw [hr2.1 hc]; exact Rw_non (by decide)
      | true =>
        obtain ⟨a, b, hab, t, na, nb, la, lb, sa, sb⟩ := city_of (by decide) hbn hc
        rw [hr2.2 a b hab hc]
        have h1 := runsT_len sa
        have h2 := runsT_len sb
        have barl : (" | " : Str).length = 3 := by with_unfolding_all rfl
        refine (Rw_txt (n := 3) (L := 20403) (x := cityT a b) (cityT_chr sa sb) ?_).le (Nat.le_refl _) (by decide)
        unfold cityT
        rw [Str.length_append, Str.length_append, barl]
        omega
    have s3 : ∀ P : Sto → Prop, Rw P 3 300000 (orN r3) := fun P => by
      cases hc : isPathD v with
      | false => rw [hr3.1 hc]; exact Rw_non (by decide)
      | true =>
        obtain ⟨l, hle, nl, ll, sl⟩ := path_of hbn hc
        rw [hr3.2 l hle hc]
        have h1 := driveT_len sl
        exact (Rw_txt (n := 3) (L := 20200) (x := driveT l) driveT_chr (by omega)).le (Nat.le_refl _) (by decide)
    have wn : ∀ P : Sto → Prop, Rw P 3 4 (orN none) := fun P => Rw_non (Nat.le_refl _)
    have l2 : ∀ j, (orN r2).lt j = true := fun j => by
      cases hc : isCityD v with
      | false => rw [hr2.1 hc]; simp [orN]
      | true =>
        obtain ⟨a, b, hab, _⟩ := city_of (by decide) hbn hc
        rw [hr2.2 a b hab hc]
        simp [orN]
    have l3 : ∀ j, (orN r3).lt j = true := fun j => by
      cases hc : isPathD v with
      | false => rw [hr3.1 hc]; simp [orN]
      | true =>
        obtain ⟨l, hle, _⟩ := path_of hbn hc
        rw [hr3.2 l hle hc]
        simp [orN]
    obtain ⟨tf, htf⟩ := (Rw_fl4 (P := fun _ => True) (x := 700000) (wn _) (wn _) (s2 _) (s3 _) (by decide)).rep (by decide) (by decide)
    obtain ⟨tv, htv⟩ := (hv.rw (P := fun _ => True)).rep (by omega) (Nat.le_trans hw (by decide))
    refine w_rightG (k := k) (r0 := none) (r1 := none) (r2 := r2) (r3 := r3) (tv := tv) (tf := tf) (a_pcity_no (k := k + 4) hi) (a_pdrive_no (k := k + 4) hi) (fun Q E S hq => ?_) (fun Q E S hq => ?_) (fun j => ⟨by simp [orN], by simp [orN], l2 j, l3 j⟩) (fun Q E S hq => w_read_no (k := k + 5) hi hq) (fun Q E S hq => w_read_no (k := k + 5) hi hq) (fun Q E S hq => ?_) (fun Q E S hq => ?_) (fun S => htv S trivial) (fun S => htf S trivial) hQ
    · refine w_fcity_any (k := k) hbn (by decide) (by decide) (fun a b hab hc => ?_) (fun hc => ?_)
      · rw [hr2.2 a b hab hc] at hq
        exact hq
      · rw [hr2.1 hc] at hq
        exact hq
    · refine w_fdrive_any (k := k + 2) hbn (by decide) (by decide) (fun l hle hc => ?_) (fun hc => ?_)
      · rw [hr3.2 l hle hc] at hq
        exact hq
      · rw [hr3.1 hc] at hq
        exact hq
    · refine w_written0 (k := k + 4) hbn (by decide) (by decide) (fun a b hab hc => ?_) (fun hc => ?_)
      · rw [hr2.2 a b hab hc] at hq
        exact hq
      · rw [hr2.1 hc] at hq
        exact hq
    · refine w_written1 (k := k + 4) hbn (by decide) (by decide) (fun l hle hc => ?_) (fun hc => ?_)
      · rw [hr3.2 l hle hc] at hq
        exact hq
      · rw [hr3.1 hc] at hq
        exact hq
end
end CC
namespace CC
open PySem PySem.Spec PyProof.Rows L2
theorem fr_bag {S J : Sto} {n m : Nat} {b b' : SO} {ds : List D} {Q : D → Sto → Prop} {E : Nat → List D → Sto → Prop} (hb : ∀ j, b'.lt j = true) (q : ∀ j, ltL j ds = true) (hm : m = S.length + J.length) : WR (trim (S.set n b ++ J) (frzD (.loc m) ((S.set n b' ++ J) ++ [.lst ds]))) Q E = Q (.fl ds) (S.set n b' ++ J) := by
  have lm : m = (S.set n b' ++ J).length := by rw [hm, List.length_append, List.length_set]
  have g : ((S.set n b' ++ J) ++ [SO.lst ds])[m]? = some (.lst ds) := by rw [lm]; simp
  rw [fr_at g, q]
  have e : ((S.set n b' ++ J) ++ [SO.lst ds]).set m (.frz ds) = (S.set n b' ++ J) ++ [.frz ds] := by
    rw [lm, List.set_append_right _ _ (Nat.le_refl _)]
    simp
  rw [e, cut_gen (by simp) ?_]
  intro i so hi
  by_cases hl : i < S.length
  · rw [List.getElem?_append_left (by simpa using hl)] at hi
    by_cases hn : n = i
    · subst hn
      rw [List.getElem?_set_self hl] at hi
      cases hi
      exact .inr (hb _)
    · rw [List.getElem?_set_ne hn] at hi
      refine .inl ?_
      rw [List.getElem?_append_left (by simpa using hl), List.getElem?_set_ne hn]
      exact hi
  · refine .inl ?_
    rw [List.getElem?_append_right (by simpa using hl), List.length_set] at hi ⊢
    exact hi
section
variable {k : Nat} {v : D} {S : Sto} {Q : D → Sto → Prop} {E : Nat → List D → Sto → Prop}
theorem w_source {n i : Nat} {ns : List Int} (h : S[n]? = some (.frz (ns.map D.int))) (hi : i < 1000) (hQ : ∀ b, BagOk b 0 → Q (.loc S.length) (S ++ [b])) : WR (CF (k + 1) f__law_source [.loc n, .int i] S) Q E := by
  rw [cf_run (fd := fd__law_source) rfl rfl]
  have pw : powOk 10 18 = true := by decide +kernel
  have pw2 : powOk 10 40 = true := by decide +kernel
  have mo : mulOk 39916801 (i : Nat) = true := mulOk_of (k := 40) (l := 40) (by decide) (by decide) (by decide) (by omega) (by omega) (by decide) (by decide)
  have fin : ∀ c : Int, Q (.loc S.length) (S ++ [.lst [.int (if (1000000000000000000 : Int) < (if c < 0 then -c else c) then (if c < 0 then -c else c) - 1000000000000000000 else 0), .int (c % 10000000000000000000000000000000000000121 + 39916801 * (i : Nat)), .int 0]]) := fun c => by
    have c0 : 0 ≤ c % 10000000000000000000000000000000000000121 := Int.emod_nonneg _ (by decide)
    have c1 : c % 10000000000000000000000000000000000000121 < 10000000000000000000000000000000000000121 := Int.emod_lt_of_pos _ (by decide)
    refine hQ _ ⟨_, _, _, rfl, ?_, by omega, by omega, by omega, by omega⟩
    split <;> split <;> omega
  simp [fd__law_source, bd__law_source, startE, lst_frz h]
  split
  · rename_i hlt
    have ha : atI (ns.map D.int) (i : Nat) = some (.int (ns[i]'(by omega))) := by
      rw [atI_of (by omega) (by simpa using hlt)]
      simp
    rw [ha]
    generalize ns[i]'(by omega) = c
    simp [pw, pw2, mo]
    exact fin c
  · refine ⟨pw, pw2, mo, ?_⟩
    simpa using fin 0
theorem w_runs {n : Nat} {b : SO} {c mo wi : Int} {A B z : Str} (hab : A ≠ B) (z0 : ∀ S, ixD (.str z) (.int 0) S = some (.str A)) (z1 : ∀ S, ixD (.str z) (.int 1) S = some (.str B)) (h : S[n]? = some b) (hb : BagOk b c) (hc : c < 2 ^ 59) (m0 : 0 < mo) (m1 : mo ≤ 20) (w0 : 0 < wi) (w1 : wi ≤ 10 ^ 30)
    (hQ : ∀ l b', okR A B l = true → (l.length : Int) ≤ mo → BndR (10 ^ 30) l → BagOk b' (c + 100) → Q (encR l) (S.set n b')) : WR (CF (k + 2) f__law_runs [.loc n, .str z, .int mo, .int wi] S) Q E := by
  rw [cf_run (fd := fd__law_runs) rfl rfl]
  simp [fd__law_runs, bd__law_runs, startE]
  refine w_draw h hb (by omega) (by decide) (by decide) fun t b1 r0 r1 hb1 => ?_
  simp
  refine w_draw (old_get (set_get h)) hb1 (by omega) m0 (by omega) fun m b2 q0 q1 hb2 => ?_
  have hn := old_lt h
  rw [old_set (set_get h), List.set_set]
  simp [small62_of (i := 1 + m) (by omega) (by omega)]
  obtain ⟨L, hL⟩ : ∃ L, L = S.length := ⟨_, rfl⟩
  rw [← hL]
  obtain ⟨J, hJ⟩ : ∃ J : Nat → Env → Sto → Prop, ∀ i ρ S1, J i ρ S1 ↔ ∃ (l : Runs) (b' : SO) (u6 u7 : Option D), ρ = [some (.loc n), some (.str z), some (.int mo), some (.int wi), some (.int t), some (.loc L), u6, u7] ∧ l.length = i ∧ S1 = S.set n b' ++ [.lst (l.map encP)] ∧ BagOk b' (c + 2 + 3 * (i : Nat)) ∧ AltR A B t l ∧ BndR (10 ^ 30) l := ⟨_, fun _ _ _ => Iff.rfl⟩
  refine ws_range J ?_ ?_ ((hJ _ _ _).mpr ⟨[], b2, _, _, rfl, rfl, rfl, hb2.le (by omega), (by intro j p h; simp at h), (by intro p h; cases h)⟩)
  · intro i ρ S1 hi hz
    obtain ⟨l, b', u6, u7, rfl, hl, rfl, hb', ha, hB⟩ := (hJ _ _ _).mp hz
    have gL : ∀ b' x, (S.set n b' ++ [x])[L]? = some x := fun b' x => by rw [hL]; have : (S.set n b').length = S.length := List.length_set; rw [← this]; simp
    simp
    refine w_draw (j := 3) (old_get (set_get h)) hb' (by omega) (by decide) (by decide) fun c1 b3 c10 c11 hb3 => ?_
    rw [old_set (set_get h), List.set_set]
    simp
    refine w_draw (j := wi) (old_get (set_get h)) hb3 (by omega) w0 (by omega) fun c2 b4 c20 c21 hb4 => ?_
    rw [old_set (set_get h), List.set_set]
    have ad : ∀ T, binD .Add (.int 1) (.int c2) T = R.ok (.int (1 + c2)) T := fun _ => rfl
    rw [ad, w_ok, fr_bag (fun j => hb4.ltS) (fun j => by simp) (by simp)]
    refine w_draw (j := 3) (old_get (set_get h)) hb4 (by omega) (by decide) (by decide) fun q b5 q0 q1 hb5 => ?_
    rw [old_set (set_get h), List.set_set]
    have fin : ∀ x r, x = (if (t + (i : Nat)) % 2 = 0 then A else B) → 0 ≤ r → r < 10 ^ 30 → J (i + 1) [some (.loc n), some (.str z), some (.int mo), some (.int wi), some (.int t), some (.loc L), some (.int (i : Nat)), some (.int (1 + r))] (S.set n b5 ++ [.lst (l.map encP ++ [.tup [.str x, .int (1 + r)]])]) := by
      intro x r hx r0 r1
      refine (hJ _ _ _).mpr ⟨l ++ [(x, 1 + r)], b5, _, _, rfl, by simp [hl], by rw [List.map_append]; rfl, hb5.le (by omega), ha.add (by rw [hl]; exact hx), hB.add (by show 1 ≤ 1 + r; omega) (by show 1 + r ≤ 10 ^ 30; omega)⟩
    have last : ∀ r, 0 ≤ r → r < 10 ^ 30 → isLst (.loc L) (S.set n b5 ++ [.lst (l.map encP)]) = true ∧ optP (ixD (.str z) (.int ((t + (i : Nat)) % 2)) (S.set n b5 ++ [.lst (l.map encP)])) fun a_1 =>
        WR (mtD .append (.loc L) [.tup [a_1, .int (1 + r)]] (S.set n b5 ++ [.lst (l.map encP)])) (fun x S1 => J (i + 1) [some (.loc n), some (.str z), some (.int mo), some (.int wi), some (.int t), some (.loc L), some (.int (i : Nat)), some (.int (1 + r))] S1) (fun c q S1 => E c q (cutS S (ltL L q) S1)) := fun r r0 r1 => by
      refine ⟨isLst_at (gL b5 _), ?_⟩
      rcases (by omega : (t + (i : Nat)) % 2 = 0 ∨ (t + (i : Nat)) % 2 = 1) with e | e
      · rw [e, z0]
        simp [mt_append (gL b5 _)]
        refine ⟨by unfold sizeLine; omega, ?_⟩
        have := fin A r (by rw [if_pos e]) r0 r1
        rw [List.set_append_right _ _ (by rw [List.length_set]; omega)]
        simpa [hL] using this
      · rw [e, z1]
        simp [mt_append (gL b5 _)]
        refine ⟨by unfold sizeLine; omega, ?_⟩
        have := fin B r (by rw [if_neg (by omega)]) r0 r1
        rw [List.set_append_right _ _ (by rw [List.length_set]; omega)]
        simpa [hL] using this
    have lq : q = 0 ∨ q = 1 ∨ q = 2 := by omega
    rcases lq with rfl | rfl | rfl
    · rw [show ∀ T, ixD (D.fl [D.int 1, D.int (1 + c1), D.int (1 + c2)]) (D.int 0) T = some (.int (1 + 0)) from fun _ => rfl]
      have z := last 0 (by decide) (by decide)
      simp only [optP] at z
      exact z
    · rw [show ∀ T, ixD (D.fl [D.int 1, D.int (1 + c1), D.int (1 + c2)]) (D.int 1) T = some (.int (1 + c1)) from fun _ => rfl]
      have z := last c1 c10 (by omega)
      simp only [optP] at z
      exact z
    · rw [show ∀ T, ixD (D.fl [D.int 1, D.int (1 + c1), D.int (1 + c2)]) (D.int 2) T = some (.int (1 + c2)) from fun _ => rfl]
      have z := last c2 c20 (by omega)
      simp only [optP] at z
      exact z
  · intro ρ S1 hz
    obtain ⟨l, b', u6, u7, rfl, hl, rfl, hb', ha, hB⟩ := (hJ _ _ _).mp hz
    have gL : (S.set n b' ++ [SO.lst (l.map encP)])[L]? = some (.lst (l.map encP)) := by rw [hL]; have : (S.set n b').length = S.length := List.length_set; rw [← this]; simp
    show Ws (fzE 5 _ _ _) _
    rw [fz_old (m := L) rfl gL (by simp)]
    simp
    have e : (S.set n b' ++ [SO.lst (l.map encP)]).set L (.frz (l.map encP)) = S.set n b' ++ [.frz (l.map encP)] := by
      rw [List.set_append_right _ _ (by rw [List.length_set]; omega)]
      simp [hL]
    have lt : l.all ((fun d => D.lt L d) ∘ encP) = true := List.all_eq_true.mpr fun p _ => lt_encP
    rw [e, lt, cut_set_app hb'.ltS]
    exact hQ l b' (okR_alt hab (by omega) ha hB) (by omega) hB (hb'.le (by omega))
theorem w_town {n : Nat} {b : SO} {c mo wi : Int} (h : S[n]? = some b) (hb : BagOk b c) (hc : c < 2 ^ 58) (m0 : 0 < mo) (m1 : mo ≤ 20) (w0 : 0 < wi) (w1 : wi ≤ 10 ^ 30)
    (hQ : ∀ x y b', TownB x y → BagOk b' (c + 200) → Q (encC x y) (S.set n b')) : WR (CF (k + 3) f__law_town [.loc n, .int mo, .int wi] S) Q E := by
  rw [cf_run (fd := fd__law_town) rfl rfl]
  simp [fd__law_town, bd__law_town, startE]
  refine w_runs (A := "E") (B := "W") (by decide) (fun _ => rfl) (fun _ => rfl) h hb (by omega) m0 m1 w0 w1 fun x b1 ox lx bx hb1 => ?_
  simp
  refine w_runs (A := "N") (B := "S") (by decide) (fun _ => rfl) (fun _ => rfl) (set_get h) hb1 (by omega) m0 m1 w0 w1 fun y b2 oy ly by_ hb2 => ?_
  simp
  have := hQ x y b2 ⟨ox, oy, by omega, by omega, bx, by_⟩ (hb2.le (by omega))
  simpa [encC] using this
end
end CC
namespace CC
open PySem PySem.Spec PyProof.Rows L2 TL
section
variable {k : Nat} {v : D} {S : Sto} {Q : D → Sto → Prop} {E : Nat → List D → Sto → Prop}
def oddA : List D := [.non, .int 0, .int (-1), .bl true, .str "", .str "E", .str "N1", .tup [], .fl [], .fd [] [], .tup [.str "E", .int 1], .tup [.str "N", .int 0], .tup [.int 0, .int 0], .tup [.int 0, .int (-1)], .tup [.int 1, .bl true], .tup [.str "W", .str "1"]]
def oddB : List D := [.fl [.int 0, .int 0], .tup [.int 0, .int 0, .int 0], .tup [.int 0], .tup [.str "S", .int 10000000000000000000000000000000]]
def oddL : List D := oddA ++ oddB
theorem odd_bs : ∀ d ∈ oddL, Bs [3] d := by
  intro d hd
  have i0 : ∀ i : Int, i.natAbs < 2 ^ 110 → ∀ ms, Bs ms (.int i) := fun i h ms => by rw [bs_int]; exact h
  have s0 : ∀ s : Str, ((reprText s).length ≤ 110 ∧ s.length ≤ 100 ∧ ∀ c ∈ tl s, c < 256) → ∀ ms, Bs ms (.str s) := fun s h ms => by rw [bs_str]; exact h
  have e0 := s0 "" (by decide +kernel)
  have eE := s0 "E" (by decide +kernel)
  have eN1 := s0 "N1" (by decide +kernel)
  have eN := s0 "N" (by decide +kernel)
  have eW := s0 "W" (by decide +kernel)
  have e1 := s0 "1" (by decide +kernel)
  have eS := s0 "S" (by decide +kernel)
  have n0 := i0 0 (by decide)
  have n1 := i0 1 (by decide)
  have m1 := i0 (-1) (by decide)
  have nb := i0 10000000000000000000000000000000 (by decide)
  have t1 : ∀ a, Bs [] a → Bs [3] (.tup [a]) := fun a h1 => ⟨by simp, fun d hd => by rw [List.mem_singleton.mp hd]; exact h1⟩
  have t2 : ∀ a b, Bs [] a → Bs [] b → Bs [3] (.tup [a, b]) ∧ Bs [3] (.fl [a, b]) := fun a b h1 h2 => by
    have h : ∀ d ∈ [a, b], Bs [] d := fun d hd => by
      simp only [List.mem_cons, List.not_mem_nil, or_false] at hd
      rcases hd with rfl | rfl
      · exact h1
      · exact h2
    exact ⟨⟨by simp, h⟩, by simp, h⟩
  have t3 : ∀ a b c, Bs [] a → Bs [] b → Bs [] c → Bs [3] (.tup [a, b, c]) := fun a b c h1 h2 h3 => ⟨by simp, fun d hd => by
    simp only [List.mem_cons, List.not_mem_nil, or_false] at hd
    rcases hd with rfl | rfl | rfl
    · exact h1
    · exact h2
    · exact h3⟩
  simp only [oddL, oddA, oddB, List.cons_append, List.nil_append, List.mem_cons, List.not_mem_nil, or_false] at hd
  rcases hd with rfl | rfl | rfl | rfl | rfl | rfl | rfl | rfl | rfl | rfl | rfl | rfl | rfl | rfl | rfl | rfl | rfl | rfl | rfl | rfl
  · exact bs_non
  · exact n0 _
  · exact m1 _
  · exact bs_bl
  · exact e0 _
  · exact eE _
  · exact eN1 _
  · exact ⟨by simp, fun d hd => nomatch hd⟩
  · exact ⟨by simp, fun d hd => nomatch hd⟩
  · exact ⟨rfl, rfl⟩
  · exact (t2 _ _ (eE _) (n1 _)).1
  · exact (t2 _ _ (eN _) (n0 _)).1
  · exact (t2 _ _ (n0 _) (n0 _)).1
  · exact (t2 _ _ (n0 _) (m1 _)).1
  · exact (t2 _ _ (n1 _) bs_bl).1
  · exact (t2 _ _ (eW _) (e1 _)).1
  · exact (t2 _ _ (n0 _) (n0 _)).2
  · exact t3 _ _ _ (n0 _) (n0 _) (n0 _)
  · exact t1 _ (n0 _)
  · exact (t2 _ _ (eS _) (nb _)).1
theorem bs_seq {ms : List Nat} {x : D} (h : Bs ms x) : (∀ S, isinst x (.tup [.ty "list", .ty "tuple"]) S = some false) ∨ ∃ m r ds, ms = m :: r ∧ SeqD x ds ∧ ds.length ≤ m ∧ ∀ d ∈ ds, Bs r d := by
  rcases bs_cases h with ⟨m', r', ds, e, hx, hl, hd⟩ | ⟨rfl, _⟩ | rfl | ⟨b, rfl⟩ | ⟨i, rfl, hi⟩ | ⟨s, rfl, hs⟩
  · exact .inr ⟨m', r', ds, e, hx, hl, hd⟩
  · exact .inl fun S => (isi_lt (t := "dict") rfl).trans (by decide +kernel)
  · exact .inl fun S => (isi_lt (t := "NoneType") rfl).trans (by decide +kernel)
  · exact .inl fun S => (isi_lt (t := "bool") rfl).trans (by decide +kernel)
  · exact .inl fun S => (isi_lt (t := "int") rfl).trans (by decide +kernel)
  · exact .inl fun S => (isi_lt (t := "str") rfl).trans (by decide +kernel)
theorem Bs.lt : ∀ {ms : List Nat} {x : D}, Bs ms x → ∀ j, D.lt j x = true
  | ms, x, h, j => by
    rcases bs_cases h with ⟨m', r', ds, rfl, hx, hl, hd⟩ | ⟨rfl, hne⟩ | rfl | ⟨b, rfl⟩ | ⟨i, rfl, hi⟩ | ⟨s, rfl, hs⟩
    · rcases hx with rfl | rfl
      · rw [lt_tup]
        exact List.all_eq_true.mpr fun d hd2 => (hd d hd2).lt j
      · rw [lt_fl]
        exact List.all_eq_true.mpr fun d hd2 => (hd d hd2).lt j
    · simp
    · simp
    · simp
    · simp
    · simp
termination_by ms => ms.length
decreasing_by all_goals (subst_vars; simp)
theorem Bs.ltL {ms : List Nat} {l : List D} (h : ∀ d ∈ l, Bs ms d) (j : Nat) : CC.ltL j l = true := List.all_eq_true.mpr fun d hd => (h d hd).lt j
theorem Bs.odd {ms : List Nat} {d : D} (h : d ∈ oddL) (hm : ∀ m ∈ ms, 2 ≤ m) : Bs (CC.bump ms) d := by
  have h3 := odd_bs d h
  cases ms with
  | nil => exact h3
  | cons m r =>
    have h2 := hm m List.mem_cons_self
    have e : CC.bump (m :: r) = (m + 1) :: CC.bump r := rfl
    rw [e]
    exact h3.wide (by omega)
def BentOk (ms : List Nat) : Prop := ∀ {k n : Nat} {c : Int} {b : SO} {x : D} {S : Sto} {Q : D → Sto → Prop} {E : Nat → List D → Sto → Prop}, S[n]? = some b → BagOk b c → c + 10 * (ms.length : Nat) < 2 ^ 57 → Bs ms x → (∀ m ∈ ms, 2 ≤ m ∧ m ≤ 100) →
    (∀ y b', Bs (CC.bump ms) y → BagOk b' (c + 10 * ((ms.length : Nat) + 1)) → Q y (S.set n b')) → WR (CF (k + ms.length + 2) f__law_bent [.loc n, x] S) Q E
theorem bent_step {ms : List Nat} (ih : ∀ m r, ms = m :: r → BentOk r) : BentOk ms := by
  intro k n c b x S Q E h hb hc hx hm hQ
  have hn := old_lt h
  have pw : powOk 10 31 = true := by decide +kernel
  have dr : ∀ {j c : Int} {b : SO} {S : Sto} {Q E}, S[n]? = some b → BagOk b c → c < 2 ^ 60 → 0 < j → j < 2 ^ 200 → (∀ r b', 0 ≤ r → r < j → BagOk b' (c + 1) → Q (.int r) (S.set n b')) → WR (CF (k + ms.length + 1) f__law_draw [.loc n, .int j] S) Q E := fun h1 h2 h3 h4 h5 h6 => w_draw (k := k + ms.length) h1 h2 h3 h4 h5 h6
  have rec_ : ∀ m r, ms = m :: r → ∀ {c : Int} {b : SO} {x : D} {S : Sto} {Q : D → Sto → Prop} {E : Nat → List D → Sto → Prop}, S[n]? = some b → BagOk b c → c + 10 * (r.length : Nat) < 2 ^ 57 → Bs r x →
      (∀ y b', Bs (CC.bump r) y → BagOk b' (c + 10 * ((r.length : Nat) + 1)) → Q y (S.set n b')) → WR (CF (k + ms.length + 1) f__law_bent [.loc n, x] S) Q E := fun m r e {c b x S Q E} h1 h2 h3 h4 h5 => by
    have el : k + ms.length + 1 = k + r.length + 2 := by rw [e, List.length_cons]; omega
    rw [el]
    exact ih m r e h1 h2 h3 h4 (fun q hq => hm q (by rw [e]; exact List.mem_cons_of_mem _ hq)) h5
  rw [cf_run (fd := fd__law_bent) rfl rfl]
  show Ws (run W (CF (k + ms.length + 1)) G bd__law_bent [some (.loc n), some x, none, none, none, none] S) _
  unfold bd__law_bent
  generalize CF (k + ms.length + 1) = C at *
  have fin : ∀ (y : D) (b' : SO) (J : List SO), Bs (CC.bump ms) y → BagOk b' (c + 10 * ((ms.length : Nat) + 1)) → Q y (CC.cutS S (y.lt S.length) (S.set n b' ++ J)) := by
    intro y b' J hy hb'
    rw [hy.lt, cut_set_app hb'.ltS]
    exact hQ y b' hy hb'
  have fin0 : ∀ (y : D) (b' : SO), Bs (CC.bump ms) y → BagOk b' (c + 10 * ((ms.length : Nat) + 1)) → Q y (CC.cutS S (y.lt S.length) (S.set n b')) := by
    intro y b' hy hb'
    have := fin y b' [] hy hb'
    rwa [List.append_nil] at this
  have odd : ∀ {S5 : Sto} {b5 : SO} {c5 : Int} {p : D → Sto → Prop} {E' : Nat → List D → Sto → Prop}, S5[n]? = some b5 → BagOk b5 c5 → c5 < 2 ^ 58 → (∀ y b', y ∈ oddL → BagOk b' (c5 + 1) → p y (S5.set n b')) →
      WR (C f__law_draw [.loc n, .int 20] S5) (fun y S2 => optP (ixD (.fl oddL) y S2) fun z => p z S2) E' := by
    intro S5 b5 c5 p E' g hb5 hc5 hp
    refine dr (j := 20) g hb5 (by omega) (by decide) (by decide) fun r b' r0 r1 hb' => ?_
    obtain ⟨o, rfl⟩ := Int.eq_ofNat_of_zero_le r0
    have ho : o < oddL.length := by show o < 20; omega
    simp only [x_fl]
    rw [atI_nat (List.getElem?_eq_getElem ho)]
    exact hp _ _ (List.getElem_mem ho) hb'
  refine s_seq (fun ρ S1 => S1 = S ∧ ρ = [some (.loc n), some x, some (.fl oddA), none, none, none]) ?_ ?_
  · simp
    rfl
  rintro ρ S1 ⟨rfl, rfl⟩
  refine s_seq (fun ρ S1' => S1' = S1 ∧ ρ = [some (.loc n), some x, some (.fl oddL), none, none, none]) ?_ ?_
  · simp [pw]
    refine ⟨by decide, ?_⟩
    rw [fr_new (by simp [oddA])]
    exact ⟨rfl, rfl⟩
  rintro ρ S1 ⟨rfl, rfl⟩
  have om : ∀ m ∈ ms, 2 ≤ m := fun m h => (hm m h).1
  rcases bs_seq hx with e | ⟨m, r, ds, hms, sq, hl, hds⟩
  · refine s_seq (fun _ _ => False) ?_ (fun _ _ z => z.elim)
    simp [e]
    refine odd h hb (by omega) fun y b' hy hb' => ?_
    exact fin0 y b' (Bs.odd hy om) (hb'.le (by omega))
  obtain ⟨J1, hJ1⟩ : ∃ J1 : Env → Sto → Prop, ∀ ρ S2, J1 ρ S2 ↔ ∃ b', BagOk b' (c + 1) ∧ 0 < ds.length ∧ S2 = S1.set n b' ∧ ρ = [some (.loc n), some x, some (.fl oddL), none, none, none] := ⟨_, fun _ _ => Iff.rfl⟩
  refine s_seq J1 ?_ ?_
  · simp [sq.isi, sq.len]
    refine ite2 (fun e => ?_) (fun e => ?_)
    · try rw [if_pos e]
      refine odd h hb (by omega) fun y b' hy hb' => ?_
      exact fin0 y b' (Bs.odd hy om) (hb'.le (by omega))
    · refine dr (j := 5) h hb (by omega) (by decide) (by decide) fun r b1 r0 r1 hb1 => ?_
      simp
      refine ite2 (fun e2 => ?_) (fun e2 => ?_)
      · refine odd (set_get h) hb1 (by omega) fun y b' hy hb' => ?_
        rw [List.set_set]
        exact fin0 y b' (Bs.odd hy om) (hb'.le (by omega))
      · exact (hJ1 _ _).mpr ⟨b1, hb1, List.length_pos_iff.mpr e, rfl, rfl⟩
  intro ρ S2 hz
  obtain ⟨b1, hb1, lp, rfl, rfl⟩ := (hJ1 _ _).mp hz
  clear hz hJ1 J1
  have hm100 := (hm m (by rw [hms]; exact List.mem_cons_self)).2
  have lms : ((ms.length : Nat) : Int) = (r.length : Nat) + 1 := by rw [hms, List.length_cons]; rfl
  obtain ⟨J2, hJ2⟩ : ∃ J2 : Env → Sto → Prop, ∀ ρ S2, J2 ρ S2 ↔ ∃ (b' : SO) (i w : Nat), BagOk b' (c + 3) ∧ i < ds.length ∧ w < 8 ∧ S2 = S1.set n b' ∧ ρ = [some (.loc n), some x, some (.fl oddL), some (.int i), some (.int w), none] := ⟨_, fun _ _ => Iff.rfl⟩
  refine s_seq J2 ?_ ?_
  · simp [sq.len]
    refine dr (j := ds.length) (set_get h) hb1 (by omega) (by omega) (by omega) fun r b2 r0 r1 hb2 => ?_
    rw [List.set_set]
    refine dr (j := 8) (set_get h) hb2 (by omega) (by decide) (by decide) fun q b3 q0 q1 hb3 => ?_
    rw [List.set_set]
    obtain ⟨i, rfl⟩ := Int.eq_ofNat_of_zero_le r0
    obtain ⟨w, rfl⟩ := Int.eq_ofNat_of_zero_le q0
    exact (hJ2 _ _).mpr ⟨b3, i, w, hb3.le (by omega), by omega, by omega, rfl, rfl⟩
  intro ρ S2 hz
  obtain ⟨b2, i, w, hb2, hi, hw, rfl, rfl⟩ := (hJ2 _ _).mp hz
  clear hz hJ2 J2 hb1 b1
  refine s_seq (fun ρ S3 => S3 = S1.set n b2 ++ [.lst ds] ∧ ρ = [some (.loc n), some x, some (.fl oddL), some (.int i), some (.int w), some (.loc S1.length)]) ?_ ?_
  · simp
    rw [sq.list]
    simp
  rintro ρ S3 ⟨rfl, rfl⟩
  have F : ∀ (b' : SO) (l : List D), (S1.set n b' ++ [SO.lst l])[S1.length]? = some (.lst l) := fun b' l => by
    rw [List.getElem?_append_right (by simp)]
    simp
  have Fs : ∀ (b' : SO) (l : List D) (z : SO), (S1.set n b' ++ [SO.lst l]).set S1.length z = S1.set n b' ++ [z] := fun b' l z => by
    rw [List.set_append_right _ _ (by simp)]
    simp
  have g1 : ∀ (b' : SO) (J : List SO), (S1.set n b' ++ J)[n]? = some b' := fun b' J => by rw [List.getElem?_append_left (by simpa using hn)]; exact set_get h
  have u1 : ∀ (b' b'' : SO) (J : List SO), (S1.set n b' ++ J).set n b'' = S1.set n b'' ++ J := fun b' b'' J => by rw [List.set_append_left _ _ (by simpa using hn), List.set_set]
  have eb : CC.bump ms = (m + 1) :: CC.bump r := by rw [hms]; rfl
  have old : ∀ d ∈ ds, Bs (CC.bump r) d := fun d hd => (hds d hd).bump
  have odr : ∀ d ∈ oddL, Bs (CC.bump r) d := fun d hd => Bs.odd hd fun q hq => om q (by rw [hms]; exact List.mem_cons_of_mem _ hq)
  have wrap : ∀ l : List D, l.length ≤ m + 1 → (∀ d ∈ l, Bs (CC.bump r) d) → Bs (CC.bump ms) (.fl l) ∧ Bs (CC.bump ms) (.tup l) := fun l h1 h2 => by
    rw [eb]
    exact ⟨⟨h1, h2⟩, h1, h2⟩
  refine s_seq (fun ρ S4 => S4 = S1.set n b2 ++ [.lst ds] ∧ ρ = [some (.loc n), some x, some (.fl oddL), some (.int i), some (.int w), some (.loc S1.length)]) ?_ ?_
  · have w7 := wrap ds (by omega) old
    have lstg : lstAt (S1.set n b2 ++ [SO.lst ds]) S1.length = some ds := lst_at (F b2 ds)
    rcases sq with rfl | rfl
    · have fr : ∀ (Q : D → Sto → Prop) (E : Nat → List D → Sto → Prop), WR (trim (S1.set n b2 ++ [SO.lst ds]) (frzD (D.loc S1.length) (S1.set n b2 ++ [SO.lst ds]))) Q E = Q (.fl ds) (S1.set n b2 ++ [SO.frz ds]) := fun Q E => by
        rw [fr_at (F b2 ds), Fs, cut_len (by simp)]
      simp [isi_tL]
      intro e
      rw [fr]
      exact fin _ b2 _ w7.1 (hb2.le (by omega))
    · have tp : ∀ T : Sto, lstAt T S1.length = some ds → biD .tuple [.loc S1.length] T = .ok (.tup ds) T := fun T hT => by
        show (match lstD T (.loc S1.length) with
          | some ds => R.ok (D.tup ds) T
          | none => .bad) = _
        have : lstD T (.loc S1.length) = some ds := hT
        rw [this]
      simp [isi_fL, lstg]
      intro e
      have := fin (.tup ds) b2 [.lst ds] w7.2 (hb2.le (by omega))
      simpa using this
  rintro ρ S4 ⟨rfl, rfl⟩
  obtain ⟨di, e1, e2, e3, e4⟩ := split_at hi
  have hdi : Bs r di := hds di (List.mem_of_getElem? e1)
  obtain ⟨J3, hJ3⟩ : ∃ J3 : Env → Sto → Prop, ∀ ρ S3, J3 ρ S3 ↔ ∃ (b' : SO) (l : List D), BagOk b' (c + 10 * ((ms.length : Nat) + 1)) ∧ l.length ≤ m + 1 ∧ (∀ d ∈ l, Bs (CC.bump r) d) ∧ S3 = S1.set n b' ++ [.frz l] ∧ ρ = [some (.loc n), some x, some (.fl oddL), some (.int i), some (.int w), some (.fl l)] := ⟨_, fun _ _ => Iff.rfl⟩
  have put : ∀ (b' : SO) (l : List D) (p : Po), p.nx = J3 → BagOk b' (c + 10 * ((ms.length : Nat) + 1)) → l.length ≤ m + 1 → (∀ d ∈ l, Bs (CC.bump r) d) → Ws (fzE 5 (S1.set n b2 ++ [.lst ds]) [some (.loc n), some x, some (.fl oddL), some (.int i), some (.int w), some (.loc S1.length)] (S1.set n b' ++ [.lst l])) p := by
    intro b' l p hp hb' hl' hd'
    rw [fz_old (m := S1.length) rfl (F b' l) (by simp), hp, Fs]
    exact (hJ3 _ _).mpr ⟨b', l, hb', hl', hd', rfl, rfl⟩
  refine s_seq J3 ?_ ?_
  · have ixl : ixL (lstAt (List.set S1 n b2 ++ [SO.lst ds]) (List.length S1)) (dicAt (List.set S1 n b2 ++ [SO.lst ds]) (List.length S1)) (dnAt (List.set S1 n b2 ++ [SO.lst ds]) (List.length S1)) (D.int (i : Nat)) = some di := by
      rw [lst_at (F b2 ds)]
      simp
      exact atI_nat e1
    simp
    refine ite2 (fun c1 => ?_) (fun c1 => ?_)
    · rw [ixl]
      simp only
      refine rec_ m r hms (g1 _ _) hb2 (by omega) hdi fun y b' hy hb' => ?_
      rw [u1, setIx_at (F b' ds) (ixN_of hi), Fs, e3]
      simp only
      refine put b' _ _ rfl (hb'.le (by omega)) (by rw [List.length_append, List.length_cons, List.length_take, List.length_drop]; omega) fun d hd => ?_
      rcases List.mem_append.mp hd with g | g
      · exact old d (List.mem_of_mem_take g)
      · rcases List.mem_cons.mp g with rfl | g
        · exact hy
        · exact old d (List.mem_of_mem_drop g)
    refine ite2 (fun c2 => ?_) (fun c2 => ?_)
    · refine ⟨isLst_at (F b2 ds), ?_⟩
      rw [mt_any (F b2 ds) (mt_popAt e1 (by omega)), Fs, e4]
      refine put b2 _ _ rfl (hb2.le (by omega)) (by rw [List.length_append, List.length_take, List.length_drop]; omega) fun d hd => ?_
      rcases List.mem_append.mp hd with g | g
      · exact old d (List.mem_of_mem_take g)
      · exact old d (List.mem_of_mem_drop g)
    refine ite2 (fun c3 => ?_) (fun c3 => ?_)
    · refine ⟨isLst_at (F b2 ds), ?_⟩
      refine odd (g1 _ _) hb2 (by omega) fun y b' hy hb' => ?_
      rw [u1, mt_any (F b' ds) (mt_insertAt (by omega) (by unfold sizeLine; omega)), Fs]
      refine put b' _ _ rfl (hb'.le (by omega)) (by rw [List.length_append, List.length_append, List.length_take, List.length_drop]; simp; omega) fun d hd => ?_
      rcases List.mem_append.mp hd with g | g
      · rcases List.mem_append.mp g with g | g
        · exact old d (List.mem_of_mem_take g)
        · rw [List.mem_singleton.mp g]; exact odr _ hy
      · exact old d (List.mem_of_mem_drop g)
    · refine ⟨isLst_at (F b2 ds), ?_⟩
      rw [ixl]
      simp only
      rw [mt_append (F b2 ds), Fs]
      refine ⟨by unfold sizeLine; omega, put b2 _ _ rfl (hb2.le (by omega)) (by rw [List.length_append]; simp; omega) fun d hd => ?_⟩
      rcases List.mem_append.mp hd with g | g
      · exact old d g
      · rw [List.mem_singleton.mp g]
        exact hdi.bump
  intro ρ S4 hz
  obtain ⟨b3, l, hb3, hl3, hd3, rfl, rfl⟩ := (hJ3 _ _).mp hz
  clear hz hJ3 J3 put
  have w3 := wrap l hl3 hd3
  rcases sq with rfl | rfl
  · simp [isi_tT]
    have := fin (.tup l) b3 [.frz l] w3.2 hb3
    simpa using this
  · simp [isi_fT]
    have := fin (.fl l) b3 [.frz l] w3.1 hb3
    simpa using this
theorem w_bent : ∀ ms : List Nat, BentOk ms
  | [] => bent_step fun m' r' e => by cases e
  | m :: r => bent_step fun m' r' e => by
    cases e
    exact w_bent r
end
end CC
namespace CC
open PySem PySem.Spec PyProof.Rows L2 TL
theorem Sg.sep {n : Nat} {l r : List Nat} (h : Sg n l) (g : Sg n r) : Sg n (l ++ 32 :: r) := fun a w b e hw => by
  rcases Nat.lt_or_ge l.length a.length with c | c
  ·
    have e1 : r = a.drop (l.length + 1) ++ (w ++ b) := by
      have e1 : (l ++ 32 :: r).drop (l.length + 1) = r := by rw [← List.drop_drop, List.drop_left' rfl]; rfl
      have e2 : (a ++ (w ++ b)).drop (l.length + 1) = a.drop (l.length + 1) ++ (w ++ b) := List.drop_append_of_le_length (by omega)
      rw [e, e2] at e1
      exact e1.symm
    exact g _ w b e1 hw
  · rcases Nat.lt_or_ge l.length (a.length + w.length) with d | d
    · exfalso
      have e1 : (l ++ 32 :: r)[l.length]? = some 32 := by
        rw [List.getElem?_append_right (Nat.le_refl _), Nat.sub_self]
        rfl
      rw [e, List.getElem?_append_right c, List.getElem?_append_left (by omega)] at e1
      exact hw (List.mem_of_getElem? e1)
    · have e1 : l = a ++ (w ++ l.drop (a.length + w.length)) := by
        have e2 : l.take (a.length + w.length) = a ++ w := by
          have := congrArg (List.take (a.length + w.length)) e
          rw [List.take_append_of_le_length d, ← List.append_assoc, List.take_left' (by simp)] at this
          exact this
        conv => lhs; rw [← List.take_append_drop (a.length + w.length) l, e2, List.append_assoc]
      exact h a w _ e1 hw
theorem Sg_join {n : Nat} : ∀ {ws : List (List Nat)}, (∀ w ∈ ws, w.length ≤ n) → Sg n (joinL [32] ws)
  | [], _ => Sg.of_len (by simp [joinL])
  | [p], h => Sg.of_len (h p List.mem_cons_self)
  | p :: q :: r, h => by
    have h1 : Sg n p := Sg.of_len (h p List.mem_cons_self)
    have h2 := Sg_join (ws := q :: r) fun w hw => h w (List.mem_cons_of_mem _ hw)
    exact h1.sep h2
theorem joinL_app {S : List Nat} : ∀ {a b : List (List Nat)}, a ≠ [] → b ≠ [] → joinL S (a ++ b) = joinL S a ++ (S ++ joinL S b)
  | [], _, h, _ => absurd rfl h
  | [p], q :: r, _, _ => rfl
  | [p], [], _, h => absurd rfl h
  | p :: q :: r, b, _, hb => by
    have ih := joinL_app (S := S) (a := q :: r) (b := b) (by simp) hb
    show p ++ (S ++ joinL S (q :: (r ++ b))) = (p ++ (S ++ joinL S (q :: r))) ++ _
    have : joinL S (q :: (r ++ b)) = joinL S (q :: r) ++ (S ++ joinL S b) := ih
    rw [this]
    simp
theorem Tx_city {n : Nat} {a b : Runs} (ha : ∀ p ∈ a, SmR p ∧ (wR p).length ≤ n) (hb : ∀ p ∈ b, SmR p ∧ (wR p).length ≤ n) (na : a ≠ []) (nb : b ≠ []) (hn : 1 ≤ n) : Tx n ((n + 1) * (a.length + b.length) + 3) (tl (cityT a b)) := by
  have e : tl (cityT a b) = joinL [32] (a.map (fun p => tl (wR p)) ++ ([[124]] ++ b.map fun p => tl (wR p))) := by
    rw [joinL_app (by simpa using na) (by simp), joinL_app (by simp) (by simpa using nb)]
    unfold cityT runsT
    rw [tl_append, tl_append, join_eq, join_eq, tl_join, tl_join, spc_tl, bar_tl, List.map_map, List.map_map]
    simp [joinL]
    rfl
  have hw : ∀ w ∈ a.map (fun p => tl (wR p)) ++ ([[124]] ++ b.map fun p => tl (wR p)), w.length ≤ n := by
    intro w hw
    rcases List.mem_append.mp hw with hw | hw
    · obtain ⟨p, hp, rfl⟩ := List.mem_map.mp hw
      rw [← len_tl]
      exact (ha p hp).2
    · rcases List.mem_append.mp hw with hw | hw
      · rw [List.mem_singleton.mp hw]
        exact hn
      · obtain ⟨p, hp, rfl⟩ := List.mem_map.mp hw
        rw [← len_tl]
        exact (hb p hp).2
  refine ⟨by rw [e]; exact Sg_join hw, ?_, cityT_chr (fun p hp => (ha p hp).1) fun p hp => (hb p hp).1⟩
  have rl : ∀ l : Runs, (∀ p ∈ l, SmR p ∧ (wR p).length ≤ n) → (tl (runsT l)).length ≤ (n + 1) * l.length := fun l hl => by
    unfold runsT
    rw [join_eq, tl_join, spc_tl]
    refine Nat.le_trans joinL_len ?_
    rw [List.map_map, List.length_map, List.length_map, List.map_map]
    have : (l.map ((List.length ∘ tl) ∘ wR)).sum ≤ n * l.length := sum_le fun p hp => by
      show (tl (wR p)).length ≤ n
      rw [← len_tl]
      exact (hl p hp).2
    have e1 : [32].length = 1 := rfl
    rw [e1, Nat.add_mul, Nat.one_mul]
    omega
  have h1 := rl a ha
  have h2 := rl b hb
  unfold cityT
  rw [tl_append, tl_append, bar_tl, List.length_append, List.length_append, Nat.mul_add]
  show _ + 3 + _ ≤ _
  omega
theorem Tx_drive {n : Nat} {l : List (Int × Int)} (h : ∀ p ∈ l, (wP p).length ≤ n) : Tx n ((n + 1) * l.length) (tl (driveT l)) := by
  have e : tl (driveT l) = joinL [32] (l.map fun p => tl (wP p)) := by
    unfold driveT
    rw [join_eq, tl_join, spc_tl, List.map_map]
    rfl
  have hw : ∀ w ∈ l.map (fun p => tl (wP p)), w.length ≤ n := by
    intro w hw
    obtain ⟨p, hp, rfl⟩ := List.mem_map.mp hw
    rw [← len_tl]
    exact h p hp
  refine ⟨by rw [e]; exact Sg_join hw, ?_, driveT_chr⟩
  rw [e]
  refine Nat.le_trans joinL_len ?_
  rw [List.map_map, List.length_map]
  have : (l.map (List.length ∘ fun p => tl (wP p))).sum ≤ n * l.length := sum_le fun p hp => by
    show (tl (wP p)).length ≤ n
    rw [← len_tl]
    exact h p hp
  have e1 : [32].length = 1 := rfl
  rw [e1, Nat.add_mul, Nat.one_mul]
  omega
theorem Tx.put {n L k : Nat} {l p : List Nat} (h : Tx n L l) (hp : p.length ≤ k) (hc : ∀ c ∈ p, c < 256) {i j : Nat} (hij : i ≤ j + (k - p.length) ∧ i ≤ l.length) : Tx (n + k + n) (L + k) (l.take i ++ p ++ l.drop j) := by
  refine ⟨((h.sg.take i).app (Sg.of_len hp)).app (h.sg.drop j), ?_, fun c hc2 => ?_⟩
  · have := h.len
    rw [List.length_append, List.length_append, List.length_take, List.length_drop]
    omega
  · rcases List.mem_append.mp hc2 with hc2 | hc2
    · rcases List.mem_append.mp hc2 with hc2 | hc2
      · exact h.chr c (List.mem_of_mem_take hc2)
      · exact hc c hc2
    · exact h.chr c (List.mem_of_mem_drop hc2)
section
variable {k : Nat} {v : D} {S : Sto} {Q : D → Sto → Prop} {E : Nat → List D → Sto → Prop}
theorem sl_to {l : List Nat} {i : Nat} (hl : l.length ≤ sizeLine) : slD (.str (mkS l)) none (some (i : Nat)) S = .ok (.str (mkS (l.take i))) S := by
  show (if (mkS l).length ≤ sizeLine then R.ok (D.str (L2.cutS (mkS l) none (some (i : Nat)))) S else .bad) = _
  rw [if_pos (by rw [mkS_len]; exact hl)]
  congr 2
  refine ext_tl ?_
  show ((mkS l).cps.toList.drop (HT.sIx (mkS l).length 0 none)).take (HT.sIx (mkS l).length (mkS l).length (some (i : Nat)) - HT.sIx (mkS l).length 0 none) = l.take i
  rw [HT.sIx_none, HT.sIx_nat, mkS_len, List.drop_zero, Nat.sub_zero]
  show l.take (min i l.length) = l.take i
  rw [List.take_eq_take_iff]
  omega
theorem sl_from {l : List Nat} {i : Nat} (hl : l.length ≤ sizeLine) : slD (.str (mkS l)) (some (i : Nat)) none S = .ok (.str (mkS (l.drop i))) S := by
  show (if (mkS l).length ≤ sizeLine then R.ok (D.str (L2.cutS (mkS l) (some (i : Nat)) none)) S else .bad) = _
  rw [if_pos (by rw [mkS_len]; exact hl)]
  congr 2
  refine ext_tl ?_
  show ((mkS l).cps.toList.drop (HT.sIx (mkS l).length 0 (some (i : Nat)))).take (HT.sIx (mkS l).length (mkS l).length none - HT.sIx (mkS l).length 0 (some (i : Nat))) = l.drop i
  rw [HT.sIx_none, HT.sIx_nat, mkS_len]
  show (l.drop (min i l.length)).take (l.length - min i l.length) = l.drop i
  rw [List.take_of_length_le (by rw [List.length_drop]; omega)]
  rcases Nat.le_total i l.length with h | h
  · rw [Nat.min_eq_left h]
  · rw [Nat.min_eq_right h, List.drop_length, List.drop_of_length_le h]
def pcs : List Str := [" ", "|", " | ", ",", "E", "W1", "N1", "S", "0", "1", "-", "+", "e1", "  ", "\n", ".", "_", "1,1", " E2", "00"]
theorem pcs_ok : ∀ p ∈ pcs, p.length ≤ 3 ∧ ∀ c ∈ tl p, c < 256 := by decide +kernel
def fN (n : Nat) : Nat → Nat
  | 0 => n
  | j + 1 => fN n j + 3 + fN n j
theorem fN_mono {n : Nat} : ∀ {i j : Nat}, i ≤ j → fN n i ≤ fN n j
  | i, 0, h => by rw [Nat.le_zero.mp h]; exact Nat.le_refl _
  | i, j + 1, h => by
    rcases Nat.lt_or_ge i (j + 1) with c | c
    · have := fN_mono (n := n) (i := i) (j := j) (by omega)
      show _ ≤ fN n j + 3 + fN n j
      omega
    · rw [Nat.le_antisymm h c]; exact Nat.le_refl _
theorem w_btext {N L n : Nat} {x : Str} {c : Int} {b : SO} (hx : Tx N L (tl x)) (hL : L ≤ 2000) (h : S[n]? = some b) (hb : BagOk b c) (hc : c < 2 ^ 58)
    (hQ : ∀ y b', Tx (8 * N + 21) (L + 9) (tl y) → BagOk b' (c + 20) → Q (.str y) (S.set n b')) : WR (CF (k + 2) f__law_bent_text [.loc n, .str x] S) Q E := by
  have hn := old_lt h
  obtain ⟨l, rfl⟩ : ∃ l, x = mkS l := ⟨tl x, (mkS_tl x).symm⟩
  rw [tl_mkS] at hx
  have dr : ∀ {j c : Int} {b : SO} {S : Sto} {Q E}, S[n]? = some b → BagOk b c → c < 2 ^ 60 → 0 < j → j < 2 ^ 200 → (∀ r b', 0 ≤ r → r < j → BagOk b' (c + 1) → Q (.int r) (S.set n b')) → WR (CF (k + 1) f__law_draw [.loc n, .int j] S) Q E := fun h1 h2 h3 h4 h5 h6 => w_draw (k := k) h1 h2 h3 h4 h5 h6
  have hz : 100000 ≤ sizeLine := by decide
  rw [cf_run (fd := fd__law_bent_text) rfl rfl]
  show Ws (run W (CF (k + 1)) G bd__law_bent_text [some (.loc n), some (.str (mkS l)), none, none, none, none, none, none] S) _
  unfold bd__law_bent_text
  generalize CF (k + 1) = C at *
  have g1 : ∀ (b' : SO) (J : List SO), (S.set n b' ++ J)[n]? = some b' := fun b' J => by rw [List.getElem?_append_left (by simpa using hn)]; exact set_get h
  have u1 : ∀ (b' b'' : SO) (J : List SO), (S.set n b' ++ J).set n b'' = S.set n b'' ++ J := fun b' b'' J => by rw [List.set_append_left _ _ (by simpa using hn), List.set_set]
  refine s_seq (fun ρ S1 => S1 = S ++ [.lst ((pcs.take 19).map D.str)] ∧ ρ = [some (.loc n), some (.str (mkS l)), some (.loc S.length), none, none, none, none, none]) ?_ ?_
  · simp
    rfl
  rintro ρ S1 ⟨rfl, rfl⟩
  obtain ⟨P1, hP1⟩ : ∃ P : Env → Sto → Prop, ∀ ρ S1, P ρ S1 ↔ ∃ K, S1 = S ++ K ∧ ρ = [some (.loc n), some (.str (mkS l)), some (.fl (pcs.map D.str)), none, none, none, none, none] := ⟨_, fun _ _ => Iff.rfl⟩
  refine s_seq P1 ?_ ?_
  · rw [s_fz]
    simp
    refine ⟨by decide, ?_⟩
    refine fz_any (J0 := [.lst ((pcs.take 19).map D.str)]) (m := S.length) (ds := pcs.map D.str) rfl ?_ (Nat.le_refl _) fun G1 => ?_
    · rw [List.getElem?_append_right (Nat.le_refl _), Nat.sub_self]
      rfl
    · exact (hP1 _ _).mpr ⟨G1, rfl, rfl⟩
  intro ρ S1 hz1
  obtain ⟨K0, rfl, rfl⟩ := (hP1 _ _).mp hz1
  clear hz1 hP1 P1
  have sS : S.set n b = S := by
    obtain ⟨hlt, e⟩ := List.getElem?_eq_some_iff.mp h
    rw [← e]
    exact List.set_getElem_self hlt
  have g0 : (S ++ K0)[n]? = some b := by rw [List.getElem?_append_left hn]; exact h
  have u0 : ∀ b', (S ++ K0).set n b' = S.set n b' ++ K0 := fun b' => List.set_append_left _ _ hn
  obtain ⟨I, hI⟩ : ∃ I : Nat → Env → Sto → Prop, ∀ j ρ S', I j ρ S' ↔ ∃ (l' : List Nat) (b' : SO) (K : List SO) (u3 u4 u5 u6 u7 : Option D), Tx (fN N j) (L + 3 * j) l' ∧ BagOk b' (c + 1 + 5 * (j : Nat)) ∧ S' = S.set n b' ++ K ∧ ρ = [some (.loc n), some (.str (mkS l')), some (.fl (pcs.map D.str)), u3, u4, u5, u6, u7] := ⟨_, fun _ _ _ => Iff.rfl⟩
  obtain ⟨J, hJ⟩ : ∃ J : Env → Sto → Prop, ∀ ρ S', J ρ S' ↔ ∃ (l' : List Nat) (b' : SO) (K : List SO) (u3 u4 u5 u6 u7 : Option D), Tx (8 * N + 21) (L + 9) l' ∧ BagOk b' (c + 20) ∧ S' = S.set n b' ++ K ∧ ρ = [some (.loc n), some (.str (mkS l')), some (.fl (pcs.map D.str)), u3, u4, u5, u6, u7] := ⟨_, fun _ _ => Iff.rfl⟩
  refine s_seq J ?_ ?_
  · simp
    refine dr g0 hb (by omega) (by decide) (by decide) fun r b1 r0 r1 hb1 => ?_
    rw [u0]
    simp
    refine ⟨small62_of (by omega) (by omega), ?_⟩
    refine ws_range I ?_ ?_ ((hI _ _ _).mpr ⟨l, b1, K0, none, none, none, none, none, hx, hb1.le (by omega), rfl, rfl⟩)
    · intro j ρ S1 hj hz1
      obtain ⟨l', b2, K, v3, v4, v5, v6, v7, hx', hb2, rfl, rfl⟩ := (hI _ _ _).mp hz1
      clear hz1 g0 u0 hb1
      have hj3 : j ≤ 2 := by omega
      have hl' := hx'.len
      have hzl : l'.length ≤ sizeLine := by omega
      simp only [List.set_cons_succ, List.set_cons_zero]
      obtain ⟨w3, hw3⟩ : ∃ w3 : Option D, w3 = some (.int (0 + (j : Nat))) := ⟨_, rfl⟩
      rw [← hw3]
      clear hw3
      obtain ⟨Pa, hPa⟩ : ∃ P : Env → Sto → Prop, ∀ ρ S1, P ρ S1 ↔ ∃ (b' : SO) (at_ : Nat), BagOk b' (c + 1 + 5 * (j : Nat) + 1) ∧ at_ ≤ l'.length ∧ S1 = S.set n b' ++ K ∧ ρ = [some (.loc n), some (.str (mkS l')), some (.fl (pcs.map D.str)), w3, some (.int (at_ : Nat)), v5, v6, v7] := ⟨_, fun _ _ => Iff.rfl⟩
      obtain ⟨Pb, hPb⟩ : ∃ P : Env → Sto → Prop, ∀ ρ S1, P ρ S1 ↔ ∃ (b' : SO) (at_ to : Nat), BagOk b' (c + 1 + 5 * (j : Nat) + 2) ∧ at_ ≤ to ∧ to ≤ at_ + 2 ∧ to ≤ l'.length ∧ S1 = S.set n b' ++ K ∧ ρ = [some (.loc n), some (.str (mkS l')), some (.fl (pcs.map D.str)), w3, some (.int (at_ : Nat)), some (.int (to : Nat)), v6, v7] := ⟨_, fun _ _ => Iff.rfl⟩
      obtain ⟨Pc, hPc⟩ : ∃ P : Env → Sto → Prop, ∀ ρ S1, P ρ S1 ↔ ∃ (b' : SO) (at_ to : Nat) (pc : List Nat), BagOk b' (c + 1 + 5 * (j : Nat) + 3) ∧ at_ ≤ to ∧ to ≤ at_ + 2 ∧ to ≤ l'.length ∧ pc.length ≤ 3 ∧ (∀ c ∈ pc, c < 256) ∧ S1 = S.set n b' ++ K ∧ ρ = [some (.loc n), some (.str (mkS l')), some (.fl (pcs.map D.str)), w3, some (.int (at_ : Nat)), some (.int (to : Nat)), some (.str (mkS pc)), v7] := ⟨_, fun _ _ => Iff.rfl⟩
      obtain ⟨Pd, hPd⟩ : ∃ P : Env → Sto → Prop, ∀ ρ S1, P ρ S1 ↔ ∃ (b' : SO) (at_ to : Nat) (K2 : List SO) (t1 t2 t3 : List Nat) (v6 : Option D), BagOk b' (c + 1 + 5 * (j : Nat) + 3) ∧ at_ ≤ to ∧ to ≤ at_ + 2 ∧ to ≤ l'.length ∧ (∀ t ∈ [t1, t2, t3], Tx (fN N (j + 1)) (L + 3 * (j + 1)) t) ∧ S1 = (S.set n b' ++ K) ++ [.lst [.str (mkS t1), .str (mkS t2), .str (mkS t3)]] ∧ ρ = [some (.loc n), some (.str (mkS l')), some (.fl (pcs.map D.str)), w3, some (.int (at_ : Nat)), some (.int (to : Nat)), v6, some (.loc (S.set n b' ++ K).length)] := ⟨_, fun _ _ => Iff.rfl⟩
      obtain ⟨Pe, hPe⟩ : ∃ P : Env → Sto → Prop, ∀ ρ S1, P ρ S1 ↔ ∃ (b' : SO) (K2 : List SO) (t1 t2 t3 t4 : List Nat) (u4 u5 u6 : Option D), BagOk b' (c + 1 + 5 * (j : Nat) + 3) ∧ (∀ t ∈ [t1, t2, t3, t4], Tx (fN N (j + 1)) (L + 3 * (j + 1)) t) ∧ S1 = S.set n b' ++ K2 ∧ ρ = [some (.loc n), some (.str (mkS l')), some (.fl (pcs.map D.str)), w3, u4, u5, u6, some (.fl [.str (mkS t1), .str (mkS t2), .str (mkS t3), .str (mkS t4)])] := ⟨_, fun _ _ => Iff.rfl⟩
      have ln : ∀ S, lenD (.str (mkS l')) S = some l'.length := fun S => by
        show (if (mkS l').length ≤ sizeLine then some (mkS l').length else none) = _
        rw [if_pos (by rw [mkS_len]; exact hzl), mkS_len]
      refine s_seq Pa ?_ ?_
      · simp [ln]
        refine dr (j := (l'.length : Int) + 1) (g1 _ _) hb2 (by omega) (by omega) (by omega) fun q b3 q0 q1 hb3 => ?_
        rw [u1]
        obtain ⟨at_, rfl⟩ := Int.eq_ofNat_of_zero_le q0
        exact (hPa _ _).mpr ⟨b3, at_, hb3, by omega, rfl, rfl⟩
      intro ρ S1 hz1
      obtain ⟨b3, at_, hb3, ha, rfl, rfl⟩ := (hPa _ _).mp hz1
      clear hz1 hPa Pa hb2 b2
      refine s_seq Pb ?_ ?_
      · simp [ln]
        refine dr (j := 2) (g1 _ _) hb3 (by omega) (by decide) (by decide) fun q b4 q0 q1 hb4 => ?_
        rw [u1]
        refine (hPb _ _).mpr ⟨b4, at_, min l'.length (at_ + 1 + q.toNat), hb4.le (by omega), by omega, by omega, by omega, rfl, ?_⟩
        have e : (if (at_ : Int) + 1 + q < (l'.length : Nat) then (at_ : Int) + 1 + q else (l'.length : Nat)) = ((min l'.length (at_ + 1 + q.toNat) : Nat) : Int) := by
          split <;> omega
        rw [← e]
      intro ρ S1 hz1
      obtain ⟨b4, at1, to, hb4, h1, h2, h3, rfl, rfl⟩ := (hPb _ _).mp hz1
      clear hz1 hPb Pb hb3 b3 ha at_
      refine s_seq Pc ?_ ?_
      · simp
        refine dr (j := 20) (g1 _ _) hb4 (by omega) (by decide) (by decide) fun q b5 q0 q1 hb5 => ?_
        rw [u1]
        obtain ⟨o, rfl⟩ := Int.eq_ofNat_of_zero_le q0
        have ho : o < pcs.length := by show o < 20; omega
        have hpo := pcs_ok pcs[o] (List.getElem_mem ho)
        have at_o : atI (pcs.map D.str) (o : Nat) = some (.str pcs[o]) := atI_nat (by rw [List.getElem?_map, List.getElem?_eq_getElem ho]; rfl)
        simp [at_o]
        refine (hPc _ _).mpr ⟨b5, at1, to, tl pcs[o], hb5.le (by omega), h1, h2, h3, by rw [← len_tl]; exact hpo.1, hpo.2, rfl, ?_⟩
        rw [mkS_tl]
      intro ρ S1 hz1
      obtain ⟨b5, at2, to2, pc, hb5, k1, k2, k3, hp1, hp2, rfl, rfl⟩ := (hPc _ _).mp hz1
      clear hz1 hPc Pc hb4 b4 h1 h2 h3 at1 to
      have e3 : L + 3 * (j + 1) = L + 3 * j + 3 := by omega
      have T1 : Tx (fN N (j + 1)) (L + 3 * (j + 1)) (l'.take at2 ++ l'.drop to2) := by
        have := hx'.put (k := 3) (p := []) (by simp) (fun _ h => nomatch h) (i := at2) (j := to2) ⟨by omega, by omega⟩
        rw [List.append_nil] at this
        rw [e3]
        exact this
      have T2 : Tx (fN N (j + 1)) (L + 3 * (j + 1)) (l'.take at2 ++ pc ++ l'.drop at2) := by
        rw [e3]
        exact hx'.put hp1 hp2 ⟨by omega, by omega⟩
      have T3 : Tx (fN N (j + 1)) (L + 3 * (j + 1)) (l'.take at2 ++ pc ++ l'.drop to2) := by
        rw [e3]
        exact hx'.put hp1 hp2 ⟨by omega, by omega⟩
      have T4 : Tx (fN N (j + 1)) (L + 3 * (j + 1)) (l'.take to2 ++ l'.drop at2) := by
        have := hx'.put (k := 3) (p := []) (by simp) (fun _ h => nomatch h) (i := to2) (j := at2) ⟨by simp; omega, by omega⟩
        rw [List.append_nil] at this
        rw [e3]
        exact this
      have st1 : ∀ S, slD (.str (mkS l')) none (some (at2 : Nat)) S = .ok (.str (mkS (l'.take at2))) S := fun S => sl_to hzl
      have st2 : ∀ S, slD (.str (mkS l')) none (some (to2 : Nat)) S = .ok (.str (mkS (l'.take to2))) S := fun S => sl_to hzl
      have sf1 : ∀ S, slD (.str (mkS l')) (some (at2 : Nat)) none S = .ok (.str (mkS (l'.drop at2))) S := fun S => sl_from hzl
      have sf2 : ∀ S, slD (.str (mkS l')) (some (to2 : Nat)) none S = .ok (.str (mkS (l'.drop to2))) S := fun S => sl_from hzl
      refine s_seq Pd ?_ ?_
      · simp [st1, st2, sf1, sf2, mkS_app, mkS_len]
        rw [List.append_assoc] at T2 T3
        have hzb : 100000 ≤ sizeLine := by decide
        refine ⟨by omega, by omega, by omega, by omega, by omega, (hPd _ _).mpr ⟨b5, at2, to2, [], _, _, _, some (.str (mkS pc)), hb5, k1, k2, k3, fun t ht => ?_, by rw [List.append_assoc], by simp⟩⟩
        simp only [List.mem_cons, List.not_mem_nil, or_false] at ht
        rcases ht with rfl | rfl | rfl
        · exact T1
        · exact T2
        · exact T3
      intro ρ S1 hz1
      clear T1 T2 T3 T4 st1 st2 sf1 sf2 k1 k2 k3 hp1 hp2 hb5
      obtain ⟨b6, at3, to3, K2, t1, t2, t3, v6', hb6, m1, m2, m3, hT, rfl, rfl⟩ := (hPd _ _).mp hz1
      clear hz1 hPd Pd
      have T4 : Tx (fN N (j + 1)) (L + 3 * (j + 1)) (l'.take to3 ++ l'.drop at3) := by
        have := hx'.put (k := 3) (p := []) (by simp) (fun _ h => nomatch h) (i := to3) (j := at3) ⟨by simp; omega, by omega⟩
        rw [List.append_nil] at this
        rw [e3]
        exact this
      have st2 : ∀ S, slD (.str (mkS l')) none (some (to3 : Nat)) S = .ok (.str (mkS (l'.take to3))) S := fun S => sl_to hzl
      have sf1 : ∀ S, slD (.str (mkS l')) (some (at3 : Nat)) none S = .ok (.str (mkS (l'.drop at3))) S := fun S => sl_from hzl
      refine s_seq Pe ?_ ?_
      · have fin : ∀ G1 ρ', ρ' = [some (.loc n), some (.str (mkS l')), some (.fl (pcs.map D.str)), w3, some (.int (at3 : Nat)), some (.int (to3 : Nat)), v6', some (.fl [.str (mkS t1), .str (mkS t2), .str (mkS t3), .str (mkS (l'.take to3 ++ l'.drop at3))])] → Pe ρ' ((S.set n b6 ++ K) ++ G1) := fun G1 ρ' e => by
          refine (hPe _ _).mpr ⟨b6, K ++ G1, t1, t2, t3, _, _, _, _, hb6, fun t ht => ?_, by rw [List.append_assoc], e⟩
          simp only [List.mem_cons, List.not_mem_nil, or_false] at ht
          rcases ht with rfl | rfl | rfl | rfl
          · exact hT _ (by simp)
          · exact hT _ (by simp)
          · exact hT _ (by simp)
          · exact T4
        generalize S.set n b6 ++ K = T at *
        rw [s_fz]
        simp [st2, sf1, mkS_app, mkS_len]
        refine ⟨by omega, by decide, ?_⟩
        refine fz_any (J0 := [.lst [.str (mkS t1), .str (mkS t2), .str (mkS t3)]]) (m := T.length) (ds := [.str (mkS t1), .str (mkS t2), .str (mkS t3), .str (mkS (l'.take to3 ++ l'.drop at3))]) rfl ?_ (Nat.le_refl _) fun G1 => ?_
        · rw [List.getElem?_append_right (Nat.le_refl _), Nat.sub_self]
          rfl
        · exact fin G1 _ rfl
      intro ρ S1 hz1
      clear T4 st2 sf1 hT m1 m2 m3 hb6
      obtain ⟨b7, K3, t1, t2, t3, t4, u4, u5, u6, hb7, hT, rfl, rfl⟩ := (hPe _ _).mp hz1
      clear hz1 hPe Pe
      simp
      refine dr (j := 4) (g1 _ _) hb7 (by omega) (by decide) (by decide) fun q b8 q0 q1 hb8 => ?_
      rw [u1]
      rcases (by omega : q = 0 ∨ q = 1 ∨ q = 2 ∨ q = 3) with rfl | rfl | rfl | rfl
      · have a : atI [D.str (mkS t1), .str (mkS t2), .str (mkS t3), .str (mkS t4)] 0 = some (.str (mkS t1)) := rfl
        simp [a]
        exact (hI _ _ _).mpr ⟨t1, b8, K3, _, _, _, _, _, hT _ (by simp), hb8.le (by push_cast; omega), rfl, rfl⟩
      · have a : atI [D.str (mkS t1), .str (mkS t2), .str (mkS t3), .str (mkS t4)] 1 = some (.str (mkS t2)) := rfl
        simp [a]
        exact (hI _ _ _).mpr ⟨t2, b8, K3, _, _, _, _, _, hT _ (by simp), hb8.le (by push_cast; omega), rfl, rfl⟩
      · have a : atI [D.str (mkS t1), .str (mkS t2), .str (mkS t3), .str (mkS t4)] 2 = some (.str (mkS t3)) := rfl
        simp [a]
        exact (hI _ _ _).mpr ⟨t3, b8, K3, _, _, _, _, _, hT _ (by simp), hb8.le (by push_cast; omega), rfl, rfl⟩
      · have a : atI [D.str (mkS t1), .str (mkS t2), .str (mkS t3), .str (mkS t4)] 3 = some (.str (mkS t4)) := rfl
        simp [a]
        exact (hI _ _ _).mpr ⟨t4, b8, K3, _, _, _, _, _, hT _ (by simp), hb8.le (by push_cast; omega), rfl, rfl⟩
    · intro ρ S1 hz1
      obtain ⟨l', b2, K, v3, v4, v5, v6, v7, hx', hb2, rfl, rfl⟩ := (hI _ _ _).mp hz1
      have hr3 : (1 + r).toNat ≤ 3 := by omega
      refine (hJ _ _).mpr ⟨l', b2, K, v3, v4, v5, v6, v7, hx'.le ?_ (by omega), hb2.le (by omega), rfl, rfl⟩
      refine Nat.le_trans (fN_mono hr3) ?_
      show fN N 2 + 3 + fN N 2 ≤ _
      show (fN N 1 + 3 + fN N 1) + 3 + (fN N 1 + 3 + fN N 1) ≤ _
      show ((N + 3 + N) + 3 + (N + 3 + N)) + 3 + ((N + 3 + N) + 3 + (N + 3 + N)) ≤ _
      omega
  intro ρ S1 hz1
  obtain ⟨l', b2, K, v3, v4, v5, v6, v7, hx', hb2, rfl, rfl⟩ := (hJ _ _).mp hz1
  simp
  rw [cut_set_app hb2.ltS]
  exact hQ (mkS l') b2 hx' hb2
end
end CC
namespace CC
open PySem PySem.Spec PyProof.Rows L2 TL
@[irreducible] def lnA : Runs := (List.range 300).map fun k => (if k % 2 = 0 then "E" else "W", 7 * (k : Nat) + 1)
@[irreducible] def lnB : Runs := (List.range 200).map fun k => (if k % 2 = 0 then "N" else "S", (k : Nat) + 1)
@[irreducible] def lnP : List (Int × Int) := (List.range 300).map fun k => ((k : Nat), 3 * (k : Nat))
theorem lnA_sm : ∀ p ∈ lnA, SmR p ∧ (wR p).length ≤ 6 := by
  intro p hp
  unfold lnA at hp
  obtain ⟨k, hk, rfl⟩ := List.mem_map.mp hp
  have hk := List.mem_range.mp hk
  have h0 : SmR (if k % 2 = 0 then "E" else "W", 7 * (k : Nat) + 1) := by
    have h31 : (10 : Int) ^ 4 < 10 ^ 100 := by decide +kernel
    refine ⟨?_, by show (0 : Int) ≤ 7 * (k : Nat) + 1; omega, by show (7 : Int) * (k : Nat) + 1 < 10 ^ 100; omega⟩
    show ∃ c, (if k % 2 = 0 then ("E" : Str) else "W") = mkS [c] ∧ 65 ≤ c ∧ c ≤ 90
    split
    · exact ⟨69, by with_unfolding_all rfl, by decide, by decide⟩
    · exact ⟨87, by with_unfolding_all rfl, by decide, by decide⟩
  refine ⟨h0, ?_⟩
  obtain ⟨c, _, _, e⟩ := wR_tl h0
  rw [len_tl, e, List.length_cons]
  have : (numL (7 * (k : Int) + 1).toNat).length ≤ 4 := numL_len (by decide) (by omega)
  show (numL (7 * (k : Int) + 1).toNat).length + 1 ≤ 6
  omega
theorem lnB_sm : ∀ p ∈ lnB, SmR p ∧ (wR p).length ≤ 6 := by
  intro p hp
  unfold lnB at hp
  obtain ⟨k, hk, rfl⟩ := List.mem_map.mp hp
  have hk := List.mem_range.mp hk
  have h0 : SmR (if k % 2 = 0 then "N" else "S", (k : Nat) + 1) := by
    have h31 : (10 : Int) ^ 4 < 10 ^ 100 := by decide +kernel
    refine ⟨?_, by show (0 : Int) ≤ (k : Nat) + 1; omega, by show ((k : Nat) : Int) + 1 < 10 ^ 100; omega⟩
    show ∃ c, (if k % 2 = 0 then ("N" : Str) else "S") = mkS [c] ∧ 65 ≤ c ∧ c ≤ 90
    split
    · exact ⟨78, by with_unfolding_all rfl, by decide, by decide⟩
    · exact ⟨83, by with_unfolding_all rfl, by decide, by decide⟩
  refine ⟨h0, ?_⟩
  obtain ⟨c, _, _, e⟩ := wR_tl h0
  rw [len_tl, e, List.length_cons]
  have : (numL (((k : Nat) : Int) + 1).toNat).length ≤ 3 := numL_len (by decide) (by omega)
  show (numL (((k : Nat) : Int) + 1).toNat).length + 1 ≤ 6
  omega
theorem lnP_sm : ∀ p ∈ lnP, Sp p ∧ (wP p).length ≤ 8 := by
  intro p hp
  unfold lnP at hp
  obtain ⟨k, hk, rfl⟩ := List.mem_map.mp hp
  have hk := List.mem_range.mp hk
  have h31 : (10 : Int) ^ 4 < 10 ^ 100 := by decide +kernel
  refine ⟨⟨by show (0 : Int) ≤ (k : Nat); omega, by show ((k : Nat) : Int) < 10 ^ 100; omega, by show (0 : Int) ≤ 3 * (k : Nat); omega, by show (3 : Int) * (k : Nat) < 10 ^ 100; omega⟩, ?_⟩
  rw [len_tl, wP_tl, List.length_append, List.length_cons]
  have h1 : (numL ((k : Nat) : Int).toNat).length ≤ 3 := numL_len (by decide) (by omega)
  have h2 : (numL (3 * (k : Int)).toNat).length ≤ 3 := numL_len (by decide) (by omega)
  show (numL ((k : Nat) : Int).toNat).length + ((numL (3 * (k : Int)).toNat).length + 1) ≤ 8
  omega
theorem lnA_len : lnA.length = 300 := by unfold lnA; simp
theorem lnB_len : lnB.length = 200 := by unfold lnB; simp
theorem lnP_len : lnP.length = 300 := by unfold lnP; simp
section
variable {k : Nat} {v : D} {S : Sto} {Q : D → Sto → Prop} {E : Nat → List D → Sto → Prop}
theorem w_longG {n : Nat} {b : SO} {c : Int} {R N : Runs} {L : List (Int × Int)} {I3 I2 : List Nat} (h3 : ∀ i ∈ I3, i < 300) (h2 : ∀ i ∈ I2, i < 200) (l3 : I3.length = 300) (l2 : I2.length = 200) (r3 : rangeD 0 300 = I3.map fun i : Nat => D.int (i : Nat)) (r2 : rangeD 0 200 = I2.map fun i : Nat => D.int (i : Nat)) (sa : ∀ p ∈ R, SmR p ∧ (wR p).length ≤ 6) (sb : ∀ p ∈ N, SmR p ∧ (wR p).length ≤ 6) (sp : ∀ p ∈ L, Sp p ∧ (wP p).length ≤ 8) (la : R.length = 300) (lb : N.length = 200) (lp : L.length = 300)
    (eR : (I3.map fun k => D.str (wR (if k % 2 = 0 then "E" else "W", 7 * (k : Nat) + 1))) = R.map fun p => D.str (wR p)) (eN : (I2.map fun k => D.str (wR (if k % 2 = 0 then "N" else "S", (k : Nat) + 1))) = N.map fun p => D.str (wR p))
    (eL : (I3.map fun k : Nat => D.str (wP ((k : Nat), 3 * (k : Nat)))) = L.map fun p => D.str (wP p))
    (h : S[n]? = some b) (hb : BagOk b c) (hc : c < 2 ^ 58) (hQ : ∀ b', BagOk b' (c + 10) → Q (.bl true) (S.set n b')) : WR (CF (k + 8) f__law_long_right [.loc n] S) Q E := by
  have hn := old_lt h
  have na : R ≠ [] := fun e => by rw [e] at la; cases la
  have nb : N ≠ [] := fun e => by rw [e] at lb; cases lb
  have t1 : Tx 6 3600 (tl (cityT R N)) := (Tx_city sa sb na nb (by decide)).le (Nat.le_refl _) (by rw [la, lb]; decide)
  have t2 : Tx 8 3600 (tl (driveT L)) := (Tx_drive fun p hp => (sp p hp).2).le (Nat.le_refl _) (by rw [lp]; decide)
  have dr : ∀ {j c : Int} {b : SO} {S : Sto} {Q E}, S[n]? = some b → BagOk b c → c < 2 ^ 60 → 0 < j → j < 2 ^ 200 → (∀ r b', 0 ≤ r → r < j → BagOk b' (c + 1) → Q (.int r) (S.set n b')) → WR (CF (k + 7) f__law_draw [.loc n, .int j] S) Q E := fun h1 h2 h3 h4 h5 h6 => w_draw (k := k + 6) h1 h2 h3 h4 h5 h6
  have rt : ∀ {nm : Bool} {x : Str} {Q E} {S : Sto}, Tx 20 3700 (tl x) → Q (.bl true) S → WR (CF (k + 7) f__law_right [.str x, .bl nm] S) Q E := fun hx hq => w_right_text (k := k) hx (by decide) (by decide) (by decide) (by decide) hq
  have jo : ∀ l : Runs, l.length ≤ 300 → (∀ p ∈ l, SmR p ∧ (wR p).length ≤ 6) → ((l.map wR).map (·.length)).sum + (l.map wR).length * (" " : Str).length ≤ 16777216 := fun l hl hs => by
    have h1 : ((l.map wR).map (·.length)).sum ≤ 6 * l.length := by
      rw [List.map_map]
      exact sum_le fun p hp => (hs p hp).2
    have h2 : (" " : Str).length = 1 := by with_unfolding_all rfl
    rw [h2, List.length_map]
    omega
  have jp : ((L.map wP).map (·.length)).sum + (L.map wP).length * (" " : Str).length ≤ 16777216 := by
    have h1 : ((L.map wP).map (·.length)).sum ≤ 8 * L.length := by
      rw [List.map_map]
      exact sum_le fun p hp => (sp p hp).2
    have h2 : (" " : Str).length = 1 := by with_unfolding_all rfl
    rw [h2, List.length_map]
    omega
  have jR : ∀ Q E (S : Sto), WR (joiF [.str " ", .fl (R.map fun p => D.str (wR p))] S) Q E = Q (.str (runsT R)) S := fun Q E S => by
    have e : R.map (fun p => D.str (wR p)) = (R.map wR).map D.str := by rw [List.map_map]; rfl
    rw [e, e_joiF (jo R (by omega) sa)]
    rfl
  have jN : ∀ Q E (S : Sto), WR (joiF [.str " ", .fl (N.map fun p => D.str (wR p))] S) Q E = Q (.str (runsT N)) S := fun Q E S => by
    have e : N.map (fun p => D.str (wR p)) = (N.map wR).map D.str := by rw [List.map_map]; rfl
    rw [e, e_joiF (jo N (by omega) sb)]
    rfl
  have jL : ∀ Q E (S : Sto), WR (joiF [.str " ", .fl (L.map fun p => D.str (wP p))] S) Q E = Q (.str (driveT L)) S := fun Q E S => by
    have e : L.map (fun p => D.str (wP p)) = (L.map wP).map D.str := by rw [List.map_map]; rfl
    rw [e, e_joiF jp]
    rfl
  have barl : (" | " : Str).length = 3 := by with_unfolding_all rfl
  have lR : (runsT R).length + 3 + (runsT N).length ≤ 3600 := by
    have := t1.len
    unfold cityT at this
    rw [← len_tl, Str.length_append, Str.length_append, barl] at this
    omega
  have ct : runsT R ++ " | " ++ runsT N = cityT R N := rfl
  have par : ∀ i : Nat, ((i : Nat) : Int) % 2 = if i % 2 = 0 then 0 else 1 := fun i => by split <;> omega
  have ew0 : ∀ S, ixD (.str "EW") (.int 0) S = some (.str "E") := fun _ => rfl
  have ew1 : ∀ S, ixD (.str "EW") (.int 1) S = some (.str "W") := fun _ => rfl
  have ns0 : ∀ S, ixD (.str "NS") (.int 0) S = some (.str "N") := fun _ => rfl
  have ns1 : ∀ S, ixD (.str "NS") (.int 1) S = some (.str "S") := fun _ => rfl
  have l1c : ∀ x : Str, x = "E" ∨ x = "W" ∨ x = "N" ∨ x = "S" → x.length = 1 := fun x hx => by rcases hx with rfl | rfl | rfl | rfl <;> with_unfolding_all rfl
  have nmL : ∀ {i : Int}, 0 ≤ i → i < 10 ^ 4 → (numS i.toNat).length ≤ 4 := fun h0 h1 => by rw [numS_len]; exact numL_len (by decide) (by omega)
  have lg4 : ∀ {i : Int}, 0 ≤ i → i < 10 ^ 4 → decide (i.natAbs.log2 < 1900) = true := fun {i} h0 h1 => log_ok h0 (Int.lt_trans h1 (by decide +kernel))
  have hz : 100000 ≤ sizeLine := by decide
  have sm3 : ∀ z : Int, z = 300 → small62 z = true := fun z e => by rw [e]; decide +kernel
  have sm2 : ∀ z : Int, z = 200 → small62 z = true := fun z e => by rw [e]; decide +kernel
  have q3 : ∀ z : Int, z = 300 → rangeD 0 z.toNat = I3.map fun i : Nat => D.int (i : Nat) := fun z e => by rw [e]; exact r3
  have q2 : ∀ z : Int, z = 200 → rangeD 0 z.toNat = I2.map fun i : Nat => D.int (i : Nat) := fun z e => by rw [e]; exact r2
  clear r3 r2
  rw [cf_run (fd := fd__law_long_right) rfl rfl]
  show Ws (run W (CF (k + 7)) G bd__law_long_right [some (.loc n), none, none, none, none, none, none, none] S) _
  unfold bd__law_long_right
  generalize CF (k + 7) = C at *
  generalize e3 : (300 : Int) = z3
  generalize e2 : (200 : Int) = z2
  replace sm3 := sm3 z3 e3.symm
  replace sm2 := sm2 z2 e2.symm
  replace q3 := q3 z3 e3.symm
  replace q2 := q2 z2 e2.symm
  clear e3 e2
  refine s_seq (fun ρ S1 => S1 = S ∧ ρ = [some (.loc n), some (.str (runsT R ++ " | ")), none, none, none, none, none, none]) ?_ ?_
  · simp -implicitDefEqProofs
    refine ⟨sm3, ?_⟩
    rw [q3]
    refine lc_m (m := I3) (enc := fun i : Nat => D.int (i : Nat)) (fun k => D.str (wR (if k % 2 = 0 then "E" else "W", 7 * (k : Nat) + 1))) (by rw [l3]; decide) (fun i hi => ?_) ?_
    · have hi := h3 i hi
      have mo : mulOk 7 (i : Nat) = true := mulOk_of (k := 4) (l := 40) (by decide) (by decide) (by decide) (by omega) (by omega) (by decide) (by decide)
      have e := numS_of (c := 7 * (i : Nat) + 1) (by omega)
      have l4 := nmL (i := 7 * (i : Nat) + 1) (by omega) (by omega)
      have g4 := lg4 (i := 7 * (i : Nat) + 1) (by omega) (by omega)
      have e : Str.ofString (7 * ((i : Nat) : Int) + 1).repr = numS (7 * ((i : Nat) : Int) + 1).toNat := e
      by_cases he : i % 2 = 0
      · simp -implicitDefEqProofs [par, he, ew0, mo]
        rw [e]
        exact ⟨by simpa using g4, by rw [l1c "E" (by simp)]; omega, rfl⟩
      · simp -implicitDefEqProofs [par, he, ew1, mo]
        rw [e]
        exact ⟨by simpa using g4, by rw [l1c "W" (by simp)]; omega, rfl⟩
    · rw [eR, fr_new (ltL_map' fun p => by simp), jR]
      simp
      rw [barl]
      omega
  rintro ρ S1 ⟨rfl, rfl⟩
  refine s_seq (fun ρ S2 => S2 = S1 ∧ ρ = [some (.loc n), some (.str (cityT R N)), none, none, none, none, none, none]) ?_ ?_
  · simp -implicitDefEqProofs
    refine ⟨sm2, ?_⟩
    rw [q2]
    refine lc_m (m := I2) (enc := fun i : Nat => D.int (i : Nat)) (fun k => D.str (wR (if k % 2 = 0 then "N" else "S", (k : Nat) + 1))) (by rw [l2]; decide) (fun i hi => ?_) ?_
    · have hi := h2 i hi
      have e := numS_of (c := (i : Nat) + 1) (by omega)
      have l4 := nmL (i := (i : Nat) + 1) (by omega) (by omega)
      have g4 := lg4 (i := (i : Nat) + 1) (by omega) (by omega)
      have e : Str.ofString (((i : Nat) : Int) + 1).repr = numS (((i : Nat) : Int) + 1).toNat := e
      by_cases he : i % 2 = 0
      · simp -implicitDefEqProofs [par, he, ns0]
        rw [e]
        exact ⟨by simpa using g4, by rw [l1c "N" (by simp)]; omega, rfl⟩
      · simp -implicitDefEqProofs [par, he, ns1]
        rw [e]
        exact ⟨by simpa using g4, by rw [l1c "S" (by simp)]; omega, rfl⟩
    · rw [eN, fr_new (ltL_map' fun p => by simp), jN]
      simp [Str.length_append, barl, ct]
      omega
  rintro ρ S2 ⟨rfl, rfl⟩
  refine s_seq (fun ρ S3 => S3 = S2 ∧ ρ = [some (.loc n), some (.str (cityT R N)), some (.str (driveT L)), none, none, none, none, none]) ?_ ?_
  · simp -implicitDefEqProofs
    refine ⟨sm3, ?_⟩
    rw [q3]
    refine lc_m (m := I3) (enc := fun i : Nat => D.int (i : Nat)) (fun k : Nat => D.str (wP ((k : Nat), 3 * (k : Nat)))) (by rw [l3]; decide) (fun i hi => ?_) ?_
    · have hi := h3 i hi
      have mo : mulOk 3 (i : Nat) = true := mulOk_of (k := 4) (l := 40) (by decide) (by decide) (by decide) (by omega) (by omega) (by decide) (by decide)
      have e1 : Str.ofString ((i : Nat) : Int).repr = numS ((i : Nat) : Int).toNat := numS_of (c := (i : Nat)) (by omega)
      have e2 : Str.ofString (3 * ((i : Nat) : Int)).repr = numS (3 * ((i : Nat) : Int)).toNat := numS_of (c := 3 * (i : Nat)) (by omega)
      have l1 := nmL (i := (i : Nat)) (by omega) (by omega)
      have g1 := lg4 (i := (i : Nat)) (by omega) (by omega)
      have l2 := nmL (i := 3 * (i : Nat)) (by omega) (by omega)
      have g2 := lg4 (i := 3 * (i : Nat)) (by omega) (by omega)
      simp -implicitDefEqProofs [mo]
      rw [e1, e2]
      have l3 : (numS ((i : Nat) : Int).toNat ++ "," : Str).length ≤ 5 := by rw [Str.length_append, com_len]; omega
      refine ⟨by simpa using g1, ?_, by simpa using g2, ?_, ?_⟩
      · rw [com_len]; omega
      · omega
      · rfl
    · rw [eL, fr_new (ltL_map' fun p => by simp), jL]
      simp
  rintro ρ S3 ⟨rfl, rfl⟩
  clear jR jN jL eR eN eL sm3 sm2 q3 q2 jo jp ew0 ew1 ns0 ns1 l1c nmL lg4 par h3 h2 l3 l2 sa sb sp
  have pos1 : 0 < (tl (cityT R N)).length := by
    unfold cityT
    rw [tl_append, tl_append, bar_tl, List.length_append, List.length_append]
    show 0 < _ + 3 + _
    omega
  have pos2 : 0 < (tl (driveT L)).length := by
    have e : tl (driveT L) = joinL [32] (L.map fun p => tl (wP p)) := by
      unfold driveT
      rw [join_eq, tl_join, spc_tl, List.map_map]
      rfl
    rw [e]
    match L, lp with
    | p :: q :: r, _ =>
      show 0 < (tl (wP p) ++ ([32] ++ joinL [32] (tl (wP q) :: r.map fun p => tl (wP p)))).length
      rw [List.length_append, List.length_append]
      show 0 < _ + (1 + _)
      omega
  obtain ⟨x1, hx1⟩ : ∃ l, cityT R N = mkS l := ⟨_, (mkS_tl _).symm⟩
  obtain ⟨x2, hx2⟩ : ∃ l, driveT L = mkS l := ⟨_, (mkS_tl _).symm⟩
  rw [hx1, tl_mkS] at t1 pos1
  rw [hx2, tl_mkS] at t2 pos2
  rw [hx1, hx2]
  clear lR ct la lb lp na nb hx1 hx2
  have g1 : ∀ (b' : SO), (S3.set n b')[n]? = some b' := fun b' => set_get h
  have tk : ∀ d ∈ [D.str (mkS x1), .str (mkS x2)], ∃ l, d = .str (mkS l) ∧ Tx 8 3600 l ∧ 0 < l.length := fun d hd => by
    simp only [List.mem_cons, List.not_mem_nil, or_false] at hd
    rcases hd with rfl | rfl
    · exact ⟨x1, rfl, t1.le (by decide) (Nat.le_refl _), pos1⟩
    · exact ⟨x2, rfl, t2, pos2⟩
  obtain ⟨P, hP⟩ : ∃ P : Option D → Option D → Prop, ∀ u1 u2, P u1 u2 ↔ u1 = some (D.str (mkS x1)) ∧ u2 = some (.str (mkS x2)) := ⟨_, fun _ _ => Iff.rfl⟩
  obtain ⟨I, hI⟩ : ∃ I : List D → Env → Sto → Prop, ∀ r ρ S', I r ρ S' ↔ ∃ (j : Nat) (b' : SO) (u1 u2 u3 u4 u5 u6 u7 : Option D), j + r.length = 2 ∧ (∀ d ∈ r, ∃ l, d = .str (mkS l) ∧ Tx 8 3600 l ∧ 0 < l.length) ∧ BagOk b' (c + 4 * (j : Nat)) ∧ S' = S3.set n b' ∧ ρ = [some (.loc n), u1, u2, u3, u4, u5, u6, u7] := ⟨_, fun _ _ _ => Iff.rfl⟩
  have sS : S3.set n b = S3 := by
    obtain ⟨hlt, e⟩ := List.getElem?_eq_some_iff.mp h
    rw [← e]
    exact List.set_getElem_self hlt
  refine s_seq (I []) ?_ ?_
  · simp -implicitDefEqProofs
    try rw [fr_new (by simp)]
    refine ws_for_ds I ?_ (fun _ _ h => h) ((hI _ _ _).mpr ⟨0, b, _, _, _, _, _, _, _, rfl, tk, hb.le (by omega), sS.symm, rfl⟩)
    intro d r ρ S1 hz1
    obtain ⟨j, b1, u1, u2, u3, u4, u5, u6, u7, hj, hr, hb1, rfl, rfl⟩ := (hI _ _ _).mp hz1
    clear hz1
    obtain ⟨l, rfl, hx, h0⟩ := hr d List.mem_cons_self
    have hj2 : j ≤ 1 := by rw [List.length_cons] at hj; omega
    have hl := hx.len
    have hzl : l.length ≤ sizeLine := by omega
    have ln : ∀ S, lenD (.str (mkS l)) S = some l.length := fun S => by
      show (if (mkS l).length ≤ sizeLine then some (mkS l).length else none) = _
      rw [if_pos (by rw [mkS_len]; exact hzl), mkS_len]
    obtain ⟨Pa, hPa⟩ : ∃ P : Env → Sto → Prop, ∀ ρ S1, P ρ S1 ↔ ∃ (b' : SO) (at_ : Nat), BagOk b' (c + 4 * (j : Nat) + 1) ∧ at_ < l.length ∧ S1 = S3.set n b' ∧ ρ = [some (.loc n), u1, u2, some (.str (mkS l)), some (.int (at_ : Nat)), u5, u6, u7] := ⟨_, fun _ _ => Iff.rfl⟩
    obtain ⟨Pb, hPb⟩ : ∃ P : Env → Sto → Prop, ∀ ρ S1, P ρ S1 ↔ ∃ (b' : SO) (at_ : Nat) (sg : Nat), BagOk b' (c + 4 * (j : Nat) + 2) ∧ at_ < l.length ∧ sg < 256 ∧ S1 = S3.set n b' ∧ ρ = [some (.loc n), u1, u2, some (.str (mkS l)), some (.int (at_ : Nat)), some (.str (mkS [sg])), u6, u7] := ⟨_, fun _ _ => Iff.rfl⟩
    obtain ⟨Pc, hPc⟩ : ∃ P : Env → Sto → Prop, ∀ ρ S1, P ρ S1 ↔ ∃ (b' : SO) (y : List Nat) (u4 u5 : Option D), BagOk b' (c + 4 * (j : Nat) + 2) ∧ Tx 20 3700 y ∧ S1 = S3.set n b' ∧ ρ = [some (.loc n), u1, u2, some (.str (mkS l)), u4, u5, some (.str (mkS y)), u7] := ⟨_, fun _ _ => Iff.rfl⟩
    show Ws (run W C G (.cons _ _) [some (.loc n), u1, u2, some (.str (mkS l)), u4, u5, u6, u7] (S3.set n b1)) _
    refine s_seq Pa ?_ ?_
    · simp -implicitDefEqProofs [ln]
      refine dr (j := (l.length : Int)) (g1 _) hb1 (by omega) (by omega) (by omega) fun q b2 q0 q1 hb2 => ?_
      rw [List.set_set]
      obtain ⟨at_, rfl⟩ := Int.eq_ofNat_of_zero_le q0
      exact (hPa _ _).mpr ⟨b2, at_, hb2, by omega, rfl, rfl⟩
    intro ρ S1 hz1
    obtain ⟨b2, at_, hb2, ha, rfl, rfl⟩ := (hPa _ _).mp hz1
    clear hz1 hPa Pa
    refine s_seq Pb ?_ ?_
    · simp -implicitDefEqProofs
      refine dr (j := 8) (g1 _) hb2 (by omega) (by decide) (by decide) fun q b3 q0 q1 hb3 => ?_
      rw [List.set_set]
      have sg : ∃ o, o < 256 ∧ ∀ S, ixD (.str "01 E|,S-") (.int q) S = some (.str (mkS [o])) := by
        rcases (by omega : q = 0 ∨ q = 1 ∨ q = 2 ∨ q = 3 ∨ q = 4 ∨ q = 5 ∨ q = 6 ∨ q = 7) with rfl | rfl | rfl | rfl | rfl | rfl | rfl | rfl
        · exact ⟨48, by decide, fun _ => by with_unfolding_all rfl⟩
        · exact ⟨49, by decide, fun _ => by with_unfolding_all rfl⟩
        · exact ⟨32, by decide, fun _ => by with_unfolding_all rfl⟩
        · exact ⟨69, by decide, fun _ => by with_unfolding_all rfl⟩
        · exact ⟨124, by decide, fun _ => by with_unfolding_all rfl⟩
        · exact ⟨44, by decide, fun _ => by with_unfolding_all rfl⟩
        · exact ⟨83, by decide, fun _ => by with_unfolding_all rfl⟩
        · exact ⟨45, by decide, fun _ => by with_unfolding_all rfl⟩
      obtain ⟨o, ho, hx⟩ := sg
      simp -implicitDefEqProofs [hx]
      exact (hPb _ _).mpr ⟨b3, at_, o, hb3.le (by omega), ha, ho, rfl, rfl⟩
    intro ρ S1 hz1
    obtain ⟨b3, a2, sg, hb3, ha2, hsg, rfl, rfl⟩ := (hPb _ _).mp hz1
    clear hz1 hPb Pb
    have st : ∀ S, slD (.str (mkS l)) none (some (a2 : Nat)) S = .ok (.str (mkS (l.take a2))) S := fun S => sl_to hzl
    have sf : ∀ S, slD (.str (mkS l)) (some ((a2 : Nat) + 1)) none S = .ok (.str (mkS (l.drop (a2 + 1)))) S := fun S => sl_from (i := a2 + 1) hzl
    have T : Tx 20 3700 (l.take a2 ++ [sg] ++ l.drop (a2 + 1)) :=
      (hx.put (k := 1) (p := [sg]) (by simp) (fun c hc => by rw [List.mem_singleton.mp hc]; exact hsg) (i := a2) (j := a2 + 1) ⟨by simp, by omega⟩).le (by decide) (by decide)
    refine s_seq Pc ?_ ?_
    · simp -implicitDefEqProofs [st, sf, mkS_app, mkS_len]
      rw [List.append_assoc] at T
      exact ⟨by omega, by omega, (hPc _ _).mpr ⟨b3, _, _, _, hb3, T, rfl, rfl⟩⟩
    intro ρ S1 hz1
    obtain ⟨b4, y, v4, v5, hb4, hy, rfl, rfl⟩ := (hPc _ _).mp hz1
    clear hz1 hPc Pc
    simp -implicitDefEqProofs
    refine rt (by rw [tl_mkS]; exact hx.le (by decide) (by decide)) ?_
    simp -implicitDefEqProofs
    refine rt (by rw [tl_mkS]; exact hy) ?_
    simp -implicitDefEqProofs
    exact (hI _ _ _).mpr ⟨j + 1, b4, _, _, _, _, _, _, _, by rw [List.length_cons] at hj; omega, fun d hd => hr d (List.mem_cons_of_mem _ hd), hb4.le (by push_cast; omega), rfl, rfl⟩
  intro ρ S1 hz1
  obtain ⟨j, b1, u1, u2, u3, u4, u5, u6, u7, hj, hr, hb1, rfl, rfl⟩ := (hI _ _ _).mp hz1
  have e2 : j = 2 := by simpa using hj
  subst e2
  simp
  exact hQ b1 (hb1.le (by omega))
theorem w_long {n : Nat} {b : SO} {c : Int} (h : S[n]? = some b) (hb : BagOk b c) (hc : c < 2 ^ 58) (hQ : ∀ b', BagOk b' (c + 10) → Q (.bl true) (S.set n b')) : WR (CF (k + 8) f__law_long_right [.loc n] S) Q E := by
  have hr : ∀ m : Nat, rangeD 0 m = (List.range m).map fun i : Nat => D.int (i : Nat) := fun m => by
    unfold rangeD
    refine List.map_congr_left fun i _ => ?_
    rw [Int.zero_add]
  refine w_longG (R := lnA) (N := lnB) (L := lnP) (I3 := List.range 300) (I2 := List.range 200) (fun i h => List.mem_range.mp h) (fun i h => List.mem_range.mp h) List.length_range List.length_range (hr 300) (hr 200) lnA_sm lnB_sm lnP_sm lnA_len lnB_len lnP_len ?_ ?_ ?_ h hb hc hQ
  · unfold lnA
    rw [List.map_map]
    rfl
  · unfold lnB
    rw [List.map_map]
    rfl
  · unfold lnP
    rw [List.map_map]
    rfl
end
end CC
namespace CC
open PySem PySem.Spec PyProof.Rows L2 TL
def bsB : List Nat → D → Bool
  | _, .non => true
  | _, .bl _ => true
  | _, .int i => decide (i.natAbs < 2 ^ 110)
  | _, .str x => decide ((reprText x).length ≤ 110) && decide (x.length ≤ 100) && (tl x).all (fun c => decide (c < 256))
  | m :: ms, .tup ds => decide (ds.length ≤ m) && ds.all (bsB ms)
  | m :: ms, .fl ds => decide (ds.length ≤ m) && ds.all (bsB ms)
  | _ :: _, .fd ks ds => ks.isEmpty && ds.isEmpty
  | _, _ => false
theorem bsB_ok : ∀ {ms : List Nat} {d : D}, bsB ms d = true → Bs ms d
  | _, .non, _ => bs_non
  | _, .bl _, _ => bs_bl
  | ms, .int i, h => by
    rw [bs_int]
    have : bsB ms (.int i) = decide (i.natAbs < 2 ^ 110) := by cases ms <;> rfl
    rw [this] at h
    exact of_decide_eq_true h
  | ms, .str x, h => by
    rw [bs_str]
    have : bsB ms (.str x) = (decide ((reprText x).length ≤ 110) && decide (x.length ≤ 100) && (tl x).all (fun c => decide (c < 256))) := by cases ms <;> rfl
    rw [this, Bool.and_eq_true, Bool.and_eq_true] at h
    exact ⟨of_decide_eq_true h.1.1, of_decide_eq_true h.1.2, fun c hc => of_decide_eq_true (List.all_eq_true.mp h.2 c hc)⟩
  | m :: ms, .tup ds, h => by
    have : bsB (m :: ms) (.tup ds) = (decide (ds.length ≤ m) && ds.all (bsB ms)) := rfl
    rw [this, Bool.and_eq_true] at h
    exact ⟨of_decide_eq_true h.1, fun d hd => bsB_ok (List.all_eq_true.mp h.2 d hd)⟩
  | m :: ms, .fl ds, h => by
    have : bsB (m :: ms) (.fl ds) = (decide (ds.length ≤ m) && ds.all (bsB ms)) := rfl
    rw [this, Bool.and_eq_true] at h
    exact ⟨of_decide_eq_true h.1, fun d hd => bsB_ok (List.all_eq_true.mp h.2 d hd)⟩
  | m :: ms, .fd ks ds, h => by
    have : bsB (m :: ms) (.fd ks ds) = (ks.isEmpty && ds.isEmpty) := rfl
    rw [this, Bool.and_eq_true] at h
    exact ⟨List.isEmpty_iff.mp h.1, List.isEmpty_iff.mp h.2⟩
  | [], .tup _, h => by cases h
  | [], .fl _, h => by cases h
  | [], .fd _ _, h => by cases h
  | [], .loc _, h => by cases h
  | _ :: _, .loc _, h => by cases h
  | [], .fm _ _, h => by cases h
  | _ :: _, .fm _ _, h => by cases h
  | [], .bd _, h => by cases h
  | _ :: _, .bd _, h => by cases h
  | [], .exn _ _, h => by cases h
  | _ :: _, .exn _ _, h => by cases h
  | [], .ty _, h => by cases h
  | _ :: _, .ty _, h => by cases h
  | [], .fn _, h => by cases h
  | _ :: _, .fn _, h => by cases h
  | [], .cls _, h => by cases h
  | _ :: _, .cls _, h => by cases h
def sq1 : List D := [.str "", .str " ", .str "|", .str " | ", .str "E1 | N1", .str "E1|N1", .str "E1 | N1 ", .str " E1 | N1", .str "E1  | N1", .str "E1 | N1 | S1", .str "N1 | E1"]
def sq2 : List D := [.str "E1 E1 | N1", .str "E0 | N1", .str "E01 | N1", .str "E | N1", .str "e1 | N1", .str "E1 W2 | S3 N4", .str "E+1 | N1"]
def sq3 : List D := [.str "E1 | ", .str "0,0", .str "0,0 0,0", .str "0,0 ", .str "0", .str "0,", .str ",0", .str "0,0,0", .str "00,0", .str "-1,0", .str "0,-0", .str "1.0,0"]
def sq4 : List D := [.str "0, 0", .str "0,0 1", .non, .int 0, .fl [], .tup [], .fd [] [], .bl true, .fl [.tup [.int 0, .int 0]], .fl [.tup [.int 0, .int 0], .tup [.int 0, .int 0]], .tup [.tup [.int 0, .int 0]]]
def pE : D := .tup [.str "E", .int 1]
def pN : D := .tup [.str "N", .int 1]
def lE : D := .fl [.str "E", .int 1]
def lN : D := .fl [.str "N", .int 1]
def sq5 : List D := [.fl [.tup [.int 0, .int 0, .int 0]], .fl [.str "0,0"], .fl [.tup [pE], .tup [pN]], .tup [.fl [pE], .tup [pN]], .tup [.str "E1", .str "N1"]]
def sq6 : List D := [.tup [.tup [lE], .tup [pN]], .tup [.tup [pE], .fl [pN]], .tup [.tup [pE], .tup [lN]], .fl [.fl [.int 0, .int 0]]]
def sq7 : List D := [.tup [.tup [pE], .tup [pN]], .fl [.fl [lE], .fl [lN]], .tup [.fl [.int 0, .int 0]]]
def spc1 : List D := sq1
def spc2 : List D := spc1 ++ sq2
def spc3 : List D := spc2 ++ sq3
def spc4 : List D := spc3 ++ sq4
def spc5 : List D := spc4 ++ sq5
def spc6 : List D := spc5 ++ sq6
def spc7 : List D := spc6 ++ sq7
theorem spc_bs : ∀ d ∈ spc7, Bs [3, 3, 3] d := by
  have h : spc7.all (bsB [3, 3, 3]) = true := by decide +kernel
  exact fun d hd => bsB_ok (List.all_eq_true.mp h d hd)
theorem encR_inj {a b : Runs} (h : encR a = encR b) : a = b := by
  unfold encR at h
  injection h with h
  refine (List.map_inj_right fun x y e => ?_).mp h
  unfold encP at e
  injection e with e
  obtain ⟨e1, e2⟩ := List.cons_eq_cons.mp e
  injection e1 with e1
  have e3 := (List.cons_eq_cons.mp e2).1
  injection e3 with e3
  exact Prod.ext e1 e3
theorem encC_inj {a b x y : Runs} (h : encC a b = encC x y) : a = x ∧ b = y := by
  unfold encC at h
  injection h with h
  obtain ⟨e1, e2⟩ := List.cons_eq_cons.mp h
  exact ⟨encR_inj e1, encR_inj (List.cons_eq_cons.mp e2).1⟩
theorem ptL_inj {a b : List (Int × Int)} (h : D.fl (a.map encPt) = .fl (b.map encPt)) : a = b := by
  injection h with h
  refine (List.map_inj_right fun x y e => ?_).mp h
  unfold encPt at e
  injection e with e
  obtain ⟨e1, e2⟩ := List.cons_eq_cons.mp e
  injection e1 with e1
  have e3 := (List.cons_eq_cons.mp e2).1
  injection e3 with e3
  exact Prod.ext e1 e3
theorem ten30 : (10 : Int) ^ 30 < 10 ^ 31 ∧ (10 : Int) ^ 31 < 10 ^ 100 ∧ (10 : Int) ^ 30 < 2 ^ 110 := by decide +kernel
theorem run_sm {A B : Str} {ca cb : Nat} (ea : A = mkS [ca]) (eb : B = mkS [cb]) (ha : 65 ≤ ca ∧ ca ≤ 90) (hb : 65 ≤ cb ∧ cb ≤ 90) {l : Runs} (h : okR A B l = true) (hB : BndR (10 ^ 30) l) : ∀ p ∈ l, SmR p ∧ (wR p).length ≤ 32 := by
  intro p hp
  obtain ⟨h1, h2⟩ := okR_mem h hp
  have h3 := hB p hp
  obtain ⟨t1, t2, t3⟩ := ten30
  generalize (10 : Int) ^ 30 = z30 at *
  have hs : SmR p := by
    refine ⟨?_, by omega, Int.lt_of_le_of_lt h3.2 (Int.lt_trans t1 t2)⟩
    rcases h1 with e | e
    · exact ⟨ca, by rw [e, ea], ha.1, ha.2⟩
    · exact ⟨cb, by rw [e, eb], hb.1, hb.2⟩
  refine ⟨hs, ?_⟩
  obtain ⟨c, _, _, e⟩ := wR_tl hs
  rw [len_tl, e, List.length_cons]
  have h5 : p.2.toNat < 10 ^ 31 := by
    have : p.2 < 10 ^ 31 := Int.lt_of_le_of_lt h3.2 t1
    omega
  have : (numL p.2.toNat).length ≤ 31 := numL_len (by decide) h5
  omega
theorem town_sm {x y : Runs} (t : TownB x y) : (∀ p ∈ x, SmR p ∧ (wR p).length ≤ 32) ∧ ∀ p ∈ y, SmR p ∧ (wR p).length ≤ 32 :=
  ⟨run_sm (ca := 69) (cb := 87) (by with_unfolding_all rfl) (by with_unfolding_all rfl) (by decide) (by decide) t.oa t.ba, run_sm (ca := 78) (cb := 83) (by with_unfolding_all rfl) (by with_unfolding_all rfl) (by decide) (by decide) t.ob t.bb⟩
theorem okR_ne {A B : Str} {l : Runs} (h : okR A B l = true) : l ≠ [] := fun e => by
  rw [e] at h
  cases h
theorem town_tx {x y : Runs} (t : TownB x y) : Tx 32 1323 (tl (cityT x y)) :=
  (Tx_city (town_sm t).1 (town_sm t).2 (okR_ne t.oa) (okR_ne t.ob) (by decide)).le (Nat.le_refl _) (by have := t.la; have := t.lb; omega)
theorem run_bs {l : Runs} (h : ∀ p ∈ l, SmR p ∧ (wR p).length ≤ 32) (hl : l.length ≤ 20) (hB : BndR (10 ^ 30) l) : Bs [20, 2] (encR l) := by
  refine ⟨by rw [List.length_map]; exact hl, fun d hd => ?_⟩
  obtain ⟨p, hp, rfl⟩ := List.mem_map.mp hd
  refine ⟨by simp, fun d hd => ?_⟩
  simp only [List.mem_cons, List.not_mem_nil, or_false] at hd
  rcases hd with rfl | rfl
  · rw [bs_str]
    obtain ⟨c, e, c1, c2⟩ := (h p hp).1.let_
    rw [e]
    have hc : ∀ c : Nat, c < 91 → 65 ≤ c → (reprText (mkS [c])).length ≤ 110 := by decide +kernel
    refine ⟨hc c (by omega) c1, by rw [mkS_len]; simp, fun c hc2 => ?_⟩
    rw [tl_mkS] at hc2
    rw [List.mem_singleton.mp hc2]
    omega
  · rw [bs_int]
    have := hB p hp
    obtain ⟨_, _, t3⟩ := ten30
    generalize (10 : Int) ^ 30 = z30 at *
    omega
theorem town_bs {x y : Runs} (t : TownB x y) : Bs [2, 20, 2] (encC x y) := by
  refine ⟨by simp, fun d hd => ?_⟩
  simp only [List.mem_cons, List.not_mem_nil, or_false] at hd
  rcases hd with rfl | rfl
  · exact run_bs (town_sm t).1 t.la t.ba
  · exact run_bs (town_sm t).2 t.lb t.bb
def PtK (p : Int × Int) : Prop := 0 ≤ p.1 ∧ p.1 < 12 ∧ 0 ≤ p.2 ∧ p.2 < 10 ^ 20
theorem ten20 : (10 : Int) ^ 20 < 2 ^ 110 ∧ (10 : Int) ^ 20 < 10 ^ 100 := by decide +kernel
theorem pt_sp {p : Int × Int} (h : PtK p) : Sp p ∧ (wP p).length ≤ 23 := by
  obtain ⟨h1, h2, h3, h4⟩ := h
  have h12 : (12 : Int) < 10 ^ 100 := by decide +kernel
  refine ⟨⟨h1, Int.lt_trans h2 h12, h3, Int.lt_trans h4 ten20.2⟩, ?_⟩
  rw [len_tl, wP_tl, List.length_append, List.length_cons]
  have a1 : (numL p.1.toNat).length ≤ 2 := numL_len (by decide) (by omega)
  have a2 : (numL p.2.toNat).length ≤ 20 := numL_len (by decide) (by omega)
  omega
theorem pts_tx {l : List (Int × Int)} (h : ∀ p ∈ l, PtK p) (hl : l.length ≤ 6) : Tx 32 1323 (tl (driveT l)) :=
  (Tx_drive fun p hp => (pt_sp (h p hp)).2).le (by decide) (by omega)
theorem pts_bs {l : List (Int × Int)} (h : ∀ p ∈ l, PtK p) (hl : l.length ≤ 6) : Bs [6, 2] (.fl (l.map encPt)) := by
  refine ⟨by rw [List.length_map]; exact hl, fun d hd => ?_⟩
  obtain ⟨p, hp, rfl⟩ := List.mem_map.mp hd
  obtain ⟨h1, h2, h3, h4⟩ := h p hp
  have t := ten20.1
  generalize (10 : Int) ^ 20 = z20 at *
  refine ⟨by simp, fun d hd => ?_⟩
  simp only [List.mem_cons, List.not_mem_nil, or_false] at hd
  rcases hd with rfl | rfl
  · rw [bs_int]; omega
  · rw [bs_int]; omega
theorem pts_path {l : List (Int × Int)} (h : ∀ p ∈ l, PtK p) (hn : l ≠ []) : isPathD (.fl (l.map encPt)) = true := by
  cases l with
  | nil => exact absurd rfl hn
  | cons p r =>
    show ((p :: r).map encPt).all isPtD = true
    refine List.all_eq_true.mpr fun d hd => ?_
    obtain ⟨q, hq, rfl⟩ := List.mem_map.mp hd
    obtain ⟨h1, h2, h3, h4⟩ := h q hq
    unfold isPtD encPt isIntD
    simp [h1, h3]
end CC
namespace CC
open PySem PySem.Spec PyProof.Rows L2 TL
theorem spc_lt {l : List D} (h : l.all (bsB [3, 3, 3]) = true) (j : Nat) : ltL j l = true := Bs.ltL (ms := [3, 3, 3]) (fun d hd => bsB_ok (List.all_eq_true.mp h d hd)) j
theorem cut_get {S S' : Sto} {b : Bool} {i : Nat} (h : i < S.length) : (cutS S b S')[i]? = S'[i]? := by
  unfold cutS
  split
  · rw [List.getElem?_take_of_lt h]
  · rfl
theorem law_thm : ∀ ns : List Int, ns.length ≤ 63 → ∃ S', CF 9 f_law [.loc 0] [.frz (ns.map D.int)] = .ok (.bl true) S' := by
  intro ns hl
  refine law_end ?_
  obtain ⟨F, hF⟩ : ∃ F, F = SO.frz (ns.map D.int) := ⟨_, rfl⟩
  have h0 : ([SO.frz (ns.map D.int)] : Sto)[0]? = some (.frz (ns.map D.int)) := rfl
  rw [cf_run (fd := fd_law) rfl rfl]
  show Ws (run W (CF 8) G bd_law [some (.loc 0), none, none, none, none, none, none, none, none, none] [SO.frz (ns.map D.int)]) _
  have ds : ∀ {S : Sto} {i : Nat} {Q E}, S[0]? = some F → i < 1000 → (∀ b, BagOk b 0 → Q (.loc S.length) (S ++ [b])) → WR (CF 8 f__law_source [.loc 0, .int (i : Nat)] S) Q E := fun g hi hq => w_source (k := 7) (by rw [← hF]; exact g) hi hq
  have dr : ∀ {n : Nat} {j c : Int} {b : SO} {S : Sto} {Q E}, S[n]? = some b → BagOk b c → c < 2 ^ 60 → 0 < j → j < 2 ^ 200 → (∀ r b', 0 ≤ r → r < j → BagOk b' (c + 1) → Q (.int r) (S.set n b')) → WR (CF 8 f__law_draw [.loc n, .int j] S) Q E := fun h1 h2 h3 h4 h5 h6 => w_draw (k := 7) h1 h2 h3 h4 h5 h6
  have dt : ∀ {n : Nat} {mo wi c : Int} {b : SO} {S : Sto} {Q E}, S[n]? = some b → BagOk b c → c < 2 ^ 58 → 0 < mo → mo ≤ 20 → 0 < wi → wi ≤ 10 ^ 30 → (∀ x y b', TownB x y → BagOk b' (c + 200) → Q (encC x y) (S.set n b')) → WR (CF 8 f__law_town [.loc n, .int mo, .int wi] S) Q E := fun h1 h2 h3 h4 h5 h6 h7 h8 => w_town (k := 5) h1 h2 h3 h4 h5 h6 h7 h8
  have wc : ∀ {x y : Runs} {S : Sto} {Q E}, TownB x y → Q (.str (cityT x y)) S → WR (CF 8 f__law_written [.int 0, encC x y] S) Q E := fun {x y S Q E} t hq => by
    refine w_written0 (k := 6) ((town_bs t).bn (M := 100) (by decide)) (by decide) (by decide) (fun a b e _ => ?_) (fun e => ?_)
    · obtain ⟨rfl, rfl⟩ := encC_inj e
      exact hq
    · rw [t.town.city] at e
      cases e
  have wd : ∀ {l : List (Int × Int)} {S : Sto} {Q E}, (∀ p ∈ l, PtK p) → l.length ≤ 6 → l ≠ [] → Q (.str (driveT l)) S → WR (CF 8 f__law_written [.int 1, .fl (l.map encPt)] S) Q E := fun {l S Q E} h1 h2 h3 hq => by
    refine w_written1 (k := 6) ((pts_bs h1 h2).bn (M := 100) (by decide)) (by decide) (by decide) (fun a e _ => ?_) (fun e => ?_)
    · obtain rfl := ptL_inj e
      exact hq
    · rw [pts_path h1 h3] at e
      cases e
  have bt : ∀ {n : Nat} {x : Str} {c : Int} {b : SO} {S : Sto} {Q E}, Tx 32 1323 (tl x) → S[n]? = some b → BagOk b c → c < 2 ^ 58 → (∀ y b', Tx 277 1332 (tl y) → BagOk b' (c + 20) → Q (.str y) (S.set n b')) → WR (CF 8 f__law_bent_text [.loc n, .str x] S) Q E := fun h1 h2 h3 h4 h5 => w_btext (k := 6) h1 (by decide) h2 h3 h4 h5
  have rt : ∀ {nm : Bool} {y : Str} {S : Sto} {Q E}, Tx 277 1332 (tl y) → Q (.bl true) S → WR (CF 8 f__law_right [.str y, .bl nm] S) Q E := fun h1 h2 => w_right_text (k := 1) h1 (by decide) (by decide) (by decide) (by decide) h2
  have bv : ∀ {n : Nat} {x : D} {c : Int} {b : SO} {S : Sto} {Q E}, (Bs [2, 20, 2] x ∨ Bs [6, 2] x) → S[n]? = some b → BagOk b c → c < 2 ^ 56 → (∀ y b', (Bs [3, 21, 3, 3] y ∨ Bs [7, 3, 3] y) → BagOk b' (c + 40) → Q y (S.set n b')) → WR (CF 8 f__law_bent [.loc n, x] S) Q E := fun {n x c b S Q E} hx h1 h2 h3 h4 => by
    rcases hx with hx | hx
    · exact w_bent [2, 20, 2] (k := 3) h1 h2 (by simp; omega) hx (by decide) fun y b' hy hb => h4 y b' (.inl hy) (hb.le (by simp))
    · exact w_bent [6, 2] (k := 4) h1 h2 (by simp; omega) hx (by decide) fun y b' hy hb => h4 y b' (.inr hy) (hb.le (by simp))
  have rv : ∀ {nm : Bool} {x : D} {S : Sto} {Q E}, (Bs [3, 21, 3, 3] x ∨ Bs [7, 3, 3] x) → Q (.bl true) S → WR (CF 8 f__law_right [x, .bl nm] S) Q E := fun {nm x S Q E} hx hq => by
    rcases hx with hx | hx
    · exact w_right_val (k := 1) hx (by decide) (by decide) (by decide) hq
    · exact w_right_val (k := 1) hx (by decide) (by decide) (by decide) hq
  have rs : ∀ {nm : Bool} {x : D} {S : Sto} {Q E}, x ∈ spc7 → Q (.bl true) S → WR (CF 8 f__law_right [x, .bl nm] S) Q E := fun {nm x S Q E} hx hq =>
    w_right_val (k := 1) (spc_bs x hx) (by decide) (by decide) (by decide) hq
  have lg : ∀ {n : Nat} {c : Int} {b : SO} {S : Sto} {Q E}, S[n]? = some b → BagOk b c → c < 2 ^ 58 → (∀ b', BagOk b' (c + 10) → Q (.bl true) (S.set n b')) → WR (CF 8 f__law_long_right [.loc n] S) Q E := fun h1 h2 h3 h4 => w_long (k := 0) h1 h2 h3 h4
  unfold bd_law
  generalize CF 8 = C at *
  have p30 : powOk 10 30 = true := by decide +kernel
  have p20 : powOk 10 20 = true := by decide +kernel
  have d3 : divOk 3 = true := by decide +kernel
  generalize hS0 : [SO.frz (ns.map D.int)] = S0 at *
  refine s_seq (fun ρ S1 => S1 = S0 ∧ ρ = [some (.loc 0), some (.fl spc1), none, none, none, none, none, none, none, none]) ?_ ?_
  · simp -implicitDefEqProofs
    rfl
  rintro ρ S1 ⟨rfl, rfl⟩
  refine s_seq (fun ρ S2 => S2 = S1 ∧ ρ = [some (.loc 0), some (.fl spc2), none, none, none, none, none, none, none, none]) ?_ ?_
  · simp -implicitDefEqProofs
    refine ⟨by decide, ?_⟩
    show WR (trim S1 (frzD (.loc S1.length) (S1 ++ [.lst spc2]))) _ _
    rw [fr_new (spc_lt (by decide +kernel) _)]
    exact ⟨rfl, rfl⟩
  rintro ρ S2 ⟨rfl, rfl⟩
  refine s_seq (fun ρ S3 => S3 = S2 ∧ ρ = [some (.loc 0), some (.fl spc3), none, none, none, none, none, none, none, none]) ?_ ?_
  · simp -implicitDefEqProofs
    refine ⟨by decide, ?_⟩
    show WR (trim S2 (frzD (.loc S2.length) (S2 ++ [.lst spc3]))) _ _
    rw [fr_new (spc_lt (by decide +kernel) _)]
    exact ⟨rfl, rfl⟩
  rintro ρ S3 ⟨rfl, rfl⟩
  refine s_seq (fun ρ S4 => S4 = S3 ∧ ρ = [some (.loc 0), some (.fl spc4), none, none, none, none, none, none, none, none]) ?_ ?_
  · simp -implicitDefEqProofs
    refine ⟨by decide, ?_⟩
    show WR (trim S3 (frzD (.loc S3.length) (S3 ++ [.lst spc4]))) _ _
    rw [fr_new (spc_lt (by decide +kernel) _)]
    exact ⟨rfl, rfl⟩
  rintro ρ S4 ⟨rfl, rfl⟩
  refine s_seq (fun ρ S5 => S5 = S4 ∧ ρ = [some (.loc 0), some (.fl spc5), none, none, none, none, none, none, none, none]) ?_ ?_
  · simp -implicitDefEqProofs
    refine ⟨by decide, ?_⟩
    show WR (trim S4 (frzD (.loc S4.length) (S4 ++ [.lst spc5]))) _ _
    rw [fr_new (spc_lt (by decide +kernel) _)]
    exact ⟨rfl, rfl⟩
  rintro ρ S5 ⟨rfl, rfl⟩
  refine s_seq (fun ρ S6 => S6 = S5 ∧ ρ = [some (.loc 0), some (.fl spc6), none, none, none, none, none, none, none, none]) ?_ ?_
  · simp -implicitDefEqProofs
    refine ⟨by decide, ?_⟩
    show WR (trim S5 (frzD (.loc S5.length) (S5 ++ [.lst spc6]))) _ _
    rw [fr_new (spc_lt (by decide +kernel) _)]
    exact ⟨rfl, rfl⟩
  rintro ρ S6 ⟨rfl, rfl⟩
  refine s_seq (fun ρ S7 => S7 = S6 ∧ ρ = [some (.loc 0), some (.fl spc7), none, none, none, none, none, none, none, none]) ?_ ?_
  · simp -implicitDefEqProofs
    refine ⟨by decide, ?_⟩
    show WR (trim S6 (frzD (.loc S6.length) (S6 ++ [.lst spc7]))) _ _
    rw [fr_new (spc_lt (by decide +kernel) _)]
    exact ⟨rfl, rfl⟩
  rintro ρ S7 ⟨rfl, rfl⟩
  have sl : spc7.length ≤ 100 := by decide
  generalize spc7 = sp at *
  obtain ⟨I, hI⟩ : ∃ I : Nat → Env → Sto → Prop, ∀ i ρ S1, I i ρ S1 ↔ ∃ u2 u3 u4 u5 u6 u7 u8 u9 : Option D, ρ = [some (.loc 0), some (.fl sp), u2, u3, u4, u5, u6, u7, u8, u9] ∧ S1[0]? = some F := ⟨_, fun _ _ _ => Iff.rfl⟩
  refine s_seq (I 0) ?_ ?_
  · simp -implicitDefEqProofs [lst_frz h0]
    have hm : (if (1 : Int) < if (ns.length : Int) < 4 then (ns.length : Int) else 4 then if (ns.length : Int) < 4 then (ns.length : Int) else 4 else 1) ≤ 4 := by
      split <;> split <;> omega
    have hm0 : 0 ≤ (if (1 : Int) < if (ns.length : Int) < 4 then (ns.length : Int) else 4 then if (ns.length : Int) < 4 then (ns.length : Int) else 4 else 1) := by
      split <;> split <;> omega
    generalize (if (1 : Int) < if (ns.length : Int) < 4 then (ns.length : Int) else 4 then if (ns.length : Int) < 4 then (ns.length : Int) else 4 else 1) = m at *
    refine ⟨small62_of (by omega) (by omega), ?_⟩
    refine ws_range I ?_ (fun ρ S1 hz => (hI _ _ _).mpr ((hI _ _ _).mp hz)) ((hI _ _ _).mpr ⟨_, _, _, _, _, _, _, _, rfl, by rw [hF]; exact h0⟩)
    clear h0 hF
    intro i ρ S hi hz
    obtain ⟨u2, u3, u4, u5, u6, u7, u8, u9, rfl, h0⟩ := (hI _ _ _).mp hz
    clear hz
    have hS := old_lt h0
    have hSn : S.length ≠ 0 := by omega
    have e0 : ((0 : Int) + (i : Nat)) = (i : Nat) := by omega
    rw [e0]
    simp only [List.set_cons_succ, List.set_cons_zero]
    obtain ⟨P1, hP1⟩ : ∃ P : Env → Sto → Prop, ∀ ρ S1, P ρ S1 ↔ ∃ b, BagOk b 0 ∧ S1 = S ++ [b] ∧ ρ = [some (.loc 0), some (.fl sp), some (.int (i : Nat)), some (.loc S.length), u4, u5, u6, u7, u8, u9] := ⟨_, fun _ _ => Iff.rfl⟩
    refine s_seq P1 ?_ ?_
    · simp -implicitDefEqProofs
      refine ds h0 (by omega) fun b hb => ?_
      exact (hP1 _ _).mpr ⟨b, hb, rfl, rfl⟩
    intro ρ S1 hz
    obtain ⟨b, hb, rfl, rfl⟩ := (hP1 _ _).mp hz
    clear hz hP1 P1
    obtain ⟨n, hn⟩ : ∃ n, n = S.length := ⟨_, rfl⟩
    rw [← hn] at hS hSn
    obtain ⟨iI, hiI⟩ : ∃ z : Int, z = (i : Nat) := ⟨_, rfl⟩
    rw [← hiI]
    clear hiI e0
    obtain ⟨J, hJ⟩ : ∃ J : Nat → Env → Sto → Prop, ∀ j ρ S1, J j ρ S1 ↔ ∃ (b' : SO) (u4 u5 u6 u7 u8 u9 : Option D), S1[n]? = some b' ∧ S1[0]? = some F ∧ BagOk b' (400 * j) ∧ ρ = [some (.loc 0), some (.fl sp), some (.int iI), some (.loc n), u4, u5, u6, u7, u8, u9] := ⟨_, fun _ _ _ => Iff.rfl⟩
    have J0 : J 0 [some (.loc 0), some (.fl sp), some (.int iI), some (.loc S.length), u4, u5, u6, u7, u8, u9] (S ++ [b]) := (hJ _ _ _).mpr ⟨b, _, _, _, _, _, _, by rw [hn]; exact new_get, by rw [List.getElem?_append_left (by omega)]; exact h0, hb.le (by omega), by rw [hn]⟩
    generalize S ++ [b] = T0 at *
    rw [← hn] at J0 ⊢
    clear hn h0 hb b hS
    refine s_seq (J 10) ?_ ?_
    · simp -implicitDefEqProofs
      refine ⟨by decide +kernel, ?_⟩
      refine ws_range J ?_ (fun ρ S1 hz => hz) J0
      clear J0 T0 lg rs
      intro j ρ S1 hj hz
      obtain ⟨b2, v4, v5, v6, v7, v8, v9, g1, g2, hb2, rfl⟩ := (hJ _ _ _).mp hz
      clear hz
      have hj2 : (400 * (j : Int)) ≤ 4000 := by have : j < 10 := hj; omega
      have ltn := old_lt g1
      simp only [List.set_cons_succ, List.set_cons_zero]
      obtain ⟨jI, hjI⟩ : ∃ z : Int, z = 0 + (j : Nat) := ⟨_, rfl⟩
      rw [← hjI]
      clear hjI
      have jj : 0 ≤ (j : Int) := by omega
      obtain ⟨P2, hP2⟩ : ∃ P : Env → Sto → Prop, ∀ ρ S2, P ρ S2 ↔ ∃ (b : SO) (x y : Runs), BagOk b (400 * j + 202) ∧ TownB x y ∧ S2 = S1.set n b ∧ ρ = [some (.loc 0), some (.fl sp), some (.int iI), some (.loc n), some (.int jI), some (encC x y), v6, v7, v8, v9] := ⟨_, fun _ _ => Iff.rfl⟩
      refine s_seq P2 ?_ ?_
      · simp -implicitDefEqProofs
        refine dr g1 hb2 (by omega) (by decide) (by decide) fun r b3 r0 r1 hb3 => ?_
        rcases (by omega : r = 0 ∨ r = 1 ∨ r = 2 ∨ r = 3) with rfl | rfl | rfl | rfl
        all_goals
          simp -implicitDefEqProofs [p30, d3]
          refine dr (set_get g1) hb3 (by omega) (by decide) (by decide) fun q b4 q0 q1 hb4 => ?_
          rw [List.set_set]
          rcases (by omega : q = 0 ∨ q = 1) with rfl | rfl
          all_goals
            simp -implicitDefEqProofs
            refine dt (set_get g1) hb4 (by omega) (by decide) (by decide) (by decide) (by decide) fun x y b5 tw hb5 => ?_
            rw [List.set_set]
            exact (hP2 _ _).mpr ⟨b5, x, y, hb5.le (by omega), tw, rfl, rfl⟩
      intro ρ S2 hz
      obtain ⟨b3, x, y, hb3, tw, rfl, rfl⟩ := (hP2 _ _).mp hz
      clear hz hP2 P2 hb2
      obtain ⟨P3, hP3⟩ : ∃ P : Env → Sto → Prop, ∀ ρ S2, P ρ S2 ↔ ∃ (b : SO) (z : Int), BagOk b (400 * j + 203) ∧ 1 ≤ z ∧ z ≤ 6 ∧ S2 = S1.set n b ∧ ρ = [some (.loc 0), some (.fl sp), some (.int iI), some (.loc n), some (.int jI), some (encC x y), some (.int z), v7, v8, v9] := ⟨_, fun _ _ => Iff.rfl⟩
      refine s_seq P3 ?_ ?_
      · simp -implicitDefEqProofs
        refine dr (set_get g1) hb3 (by omega) (by decide) (by decide) fun r b4 r0 r1 hb4 => ?_
        rw [List.set_set]
        exact (hP3 _ _).mpr ⟨b4, 1 + r, hb4.le (by omega), by omega, by omega, rfl, rfl⟩
      intro ρ S2 hz
      obtain ⟨b4, z, hb4, z0, z1, rfl, rfl⟩ := (hP3 _ _).mp hz
      clear hz hP3 P3 hb3 b3
      have sz : small62 z = true := small62_of (by omega) (by omega)
      obtain ⟨L, hL⟩ : ∃ L : Nat → List D → Sto → Prop, ∀ q acc S3, L q acc S3 ↔ ∃ (b : SO) (l : List (Int × Int)), BagOk b (400 * j + 205 + 2 * q) ∧ acc = l.map encPt ∧ l.length = q ∧ (∀ p ∈ l, PtK p) ∧ S3 = S1.set n b := ⟨_, fun _ _ _ => Iff.rfl⟩
      obtain ⟨P4, hP4⟩ : ∃ P : Env → Sto → Prop, ∀ ρ S2, P ρ S2 ↔ ∃ (b : SO) (l : List (Int × Int)), BagOk b (400 * j + 220) ∧ (∀ p ∈ l, PtK p) ∧ l.length ≤ 6 ∧ l ≠ [] ∧ S2[n]? = some b ∧ S2[0]? = some F ∧ ρ = [some (.loc 0), some (.fl sp), some (.int iI), some (.loc n), some (.int jI), some (encC x y), some (.int z), some (.fl (l.map encPt)), v8, v9] := ⟨_, fun _ _ => Iff.rfl⟩
      refine s_seq P4 ?_ ?_
      · rw [s_fz]
        simp -implicitDefEqProofs [sz, p20]
        refine wp_lcl z.toNat L ?_ ?_ _ 0 [] _ (Nat.zero_le _) (by show z.toNat < 0 + ((rangeD 0 z.toNat).length + 1); rw [rangeD_len]; omega) ((hL _ _ _).mpr ⟨b4, [], hb4.le (by omega), rfl, rfl, (fun _ h => nomatch h), rfl⟩)
        · intro q acc S3 hq hz
          obtain ⟨b6, l, hb6, rfl, lq, hs, rfl⟩ := (hL _ _ _).mp hz
          refine ⟨.int (0 + (q : Nat)), _, by show some ((rangeD 0 z.toNat)[q]?) = _; rw [rd_get hq], rfl, ?_⟩
          simp -implicitDefEqProofs
          refine dr (set_get g1) hb6 (by omega) (by decide) (by decide) fun a b7 a0 a1 hb7 => ?_
          rw [List.set_set]
          try simp -implicitDefEqProofs [p20]
          refine dr (set_get g1) hb7 (by omega) (by decide) (by decide) fun d b8 d0 d1 hb8 => ?_
          rw [List.set_set]
          refine ⟨by unfold sizeLine; omega, (hL _ _ _).mpr ⟨b8, l ++ [(a, d)], hb8.le (by push_cast; omega), by simp [encPt], by simp [lq], fun r hr => ?_, rfl⟩⟩
          rcases List.mem_append.mp hr with hr | hr
          · exact hs r hr
          · rw [List.mem_singleton.mp hr]
            exact ⟨a0, a1, d0, d1⟩
        · intro acc S3 hz
          obtain ⟨b6, l, hb6, rfl, lq, hs, rfl⟩ := (hL _ _ _).mp hz
          refine ⟨by show some ((rangeD 0 z.toNat)[z.toNat]?) = _; rw [List.getElem?_eq_none (by rw [rangeD_len]; omega)], ?_⟩
          have hF : (S1.set n b6 ++ [SO.lst (l.map encPt)])[S1.length]? = some (.lst (l.map encPt)) := by
            rw [List.getElem?_append_right (by simp)]
            simp
          have lw : n < (S1.set n b4).length := by simpa using ltn
          have l0 : 0 < (S1.set n b4).length := Nat.lt_of_le_of_lt (Nat.zero_le _) lw
          rw [fz_at (m := S1.length) (by simp) hF]
          refine (hP4 _ _).mpr ⟨b6, l, hb6.le (by omega), hs, by omega, ?_, ?_, ?_, by simp⟩
          · intro e
            subst e
            simp at lq
            omega
          · rw [cut_get lw, List.getElem?_set_ne (by omega), List.getElem?_append_left (by simpa using ltn)]
            exact set_get g1
          · rw [cut_get l0, List.getElem?_set_ne (by omega), List.getElem?_append_left (by simp; omega), List.getElem?_set_ne hSn]
            exact g2
      intro ρ S2 hz
      clear hL L hb4 sz
      obtain ⟨b5, l, hb5, hs, l6, ln, k1, k2, rfl⟩ := (hP4 _ _).mp hz
      clear hz hP4 P4
      have pj : ∀ {b' : SO}, ∀ {T : Sto}, T[0]? = some F → (T.set n b')[0]? = some F := fun h => by rw [List.getElem?_set_ne hSn]; exact h
      obtain ⟨Q1, hQ1⟩ : ∃ Q1 : List D → Env → Sto → Prop, ∀ r ρ S', Q1 r ρ S' ↔ ∃ (a : Nat) (b : SO) (w8 : Option D), a + r.length = 2 ∧ (∀ d ∈ r, ∃ s, d = .str s ∧ Tx 32 1323 (tl s)) ∧ BagOk b (400 * j + 220 + 20 * a) ∧ S'[n]? = some b ∧ S'[0]? = some F ∧ ρ = [some (.loc 0), some (.fl sp), some (.int iI), some (.loc n), some (.int jI), some (encC x y), some (.int z), some (.fl (l.map encPt)), w8, v9] := ⟨_, fun _ _ _ => Iff.rfl⟩
      obtain ⟨Q2, hQ2⟩ : ∃ Q2 : List D → Env → Sto → Prop, ∀ r ρ S', Q2 r ρ S' ↔ ∃ (a : Nat) (b : SO) (w8 : Option D), a + r.length = 2 ∧ (∀ d ∈ r, Bs [2, 20, 2] d ∨ Bs [6, 2] d) ∧ BagOk b (400 * j + 260 + 40 * a) ∧ S'[n]? = some b ∧ S'[0]? = some F ∧ ρ = [some (.loc 0), some (.fl sp), some (.int iI), some (.loc n), some (.int jI), some (encC x y), some (.int z), some (.fl (l.map encPt)), w8, v9] := ⟨_, fun _ _ _ => Iff.rfl⟩
      refine s_seq (Q1 []) ?_ ?_
      · simp -implicitDefEqProofs
        refine wc tw ?_
        try simp -implicitDefEqProofs
        refine wd hs l6 ln ?_
        try rw [fr_new (by simp)]
        refine ws_for_ds Q1 ?_ (fun _ _ h => h) ((hQ1 _ _ _).mpr ⟨0, b5, _, rfl, fun d hd => ?_, hb5.le (by omega), k1, k2, rfl⟩)
        · intro d r ρ S3 hz
          obtain ⟨a, b6, w8, ha, hr, hb6, m1, m2, rfl⟩ := (hQ1 _ _ _).mp hz
          clear hz
          obtain ⟨s, rfl, hx⟩ := hr d List.mem_cons_self
          rw [List.length_cons] at ha
          simp -implicitDefEqProofs
          refine bt hx m1 hb6 (by omega) fun y' b7 hy hb7 => ?_
          try simp -implicitDefEqProofs
          refine rt hy ?_
          simp -implicitDefEqProofs
          exact (hQ1 _ _ _).mpr ⟨a + 1, b7, _, by omega, fun d hd => hr d (List.mem_cons_of_mem _ hd), hb7.le (by push_cast; omega), set_get m1, pj m2, rfl⟩
        · simp only [List.mem_cons, List.not_mem_nil, or_false] at hd
          rcases hd with rfl | rfl
          · exact ⟨_, rfl, town_tx tw⟩
          · exact ⟨_, rfl, pts_tx hs l6⟩
      intro ρ S3 hz
      obtain ⟨a, b6, w8, ha, _, hb6, m1, m2, rfl⟩ := (hQ1 _ _ _).mp hz
      have ha2 : a = 2 := by simpa using ha
      subst ha2
      clear hz hQ1 Q1 ha k1 k2 hb5 wc wd bt rt
      refine s_seq (Q2 []) ?_ ?_
      · simp -implicitDefEqProofs
        refine ws_for_ds Q2 ?_ (fun _ _ h => h) ((hQ2 _ _ _).mpr ⟨0, b6, _, rfl, fun d hd => ?_, hb6.le (by omega), m1, m2, rfl⟩)
        · intro d r ρ S3 hz
          obtain ⟨a, b6, w8, ha, hr, hb6, m1, m2, rfl⟩ := (hQ2 _ _ _).mp hz
          clear hz
          have hx := hr d List.mem_cons_self
          rw [List.length_cons] at ha
          simp -implicitDefEqProofs
          refine bv hx m1 hb6 (by omega) fun y' b7 hy hb7 => ?_
          try simp -implicitDefEqProofs
          refine rv hy ?_
          simp -implicitDefEqProofs
          exact (hQ2 _ _ _).mpr ⟨a + 1, b7, _, by omega, fun d hd => hr d (List.mem_cons_of_mem _ hd), hb7.le (by push_cast; omega), set_get m1, pj m2, rfl⟩
        · simp only [List.mem_cons, List.not_mem_nil, or_false] at hd
          rcases hd with rfl | rfl
          · exact .inl (town_bs tw)
          · exact .inr (pts_bs hs l6)
      intro ρ S4 hz
      obtain ⟨a, b7, w8, ha, _, hb7, m1, m2, rfl⟩ := (hQ2 _ _ _).mp hz
      have ha2 : a = 2 := by simpa using ha
      subst ha2
      simp
      exact (hJ _ _ _).mpr ⟨b7, _, _, _, _, _, _, m1, m2, hb7.le (by push_cast; omega), rfl⟩
    intro ρ S2 hz
    obtain ⟨b2, v4, v5, v6, v7, v8, v9, g1, g2, hb2, rfl⟩ := (hJ _ _ _).mp hz
    clear hz J0 ds dr dt wc wd bt rt bv rv
    simp -implicitDefEqProofs
    refine wp_lcl sp.length (fun _ acc S3 => acc = [] ∧ S3 = S2) ?_ ?_ _ 0 [] _ (Nat.zero_le _) (by show sp.length < 0 + (sp.length + 1); omega) ⟨rfl, rfl⟩
    · rintro q acc S3 hq ⟨rfl, rfl⟩
      refine ⟨sp[q], _, by show some (sp[q]?) = _; rw [List.getElem?_eq_getElem hq], rfl, ?_⟩
      simp -implicitDefEqProofs
      refine rs (List.getElem_mem hq) ?_
      simp
    · rintro acc S3 ⟨rfl, rfl⟩
      refine ⟨by show some (sp[sp.length]?) = _; rw [List.getElem?_eq_none (Nat.le_refl _)], ?_⟩
      rw [fr_new0]
      have ce : ∀ S, cmpD CmpOp.NotEq (D.fl []) (.fl []) S = some false := fun _ => rfl
      rw [ce]
      simp -implicitDefEqProofs
      refine lg g1 hb2 (by omega) fun b' hb' => ?_
      simp
      exact (hI _ _ _).mpr ⟨_, _, _, _, _, _, _, _, rfl, by rw [List.getElem?_set_ne hSn]; exact g2⟩
  intro ρ S1 hz
  obtain ⟨u2, u3, u4, u5, u6, u7, u8, u9, rfl, g0⟩ := (hI _ _ _).mp hz
  simp
end CC
namespace CC
open PySem PySem.Spec PyProof.Rows L2
abbrev nm_is_integer : List Str := ["value", "low"]
abbrev nm_is_run : List Str := ["value", "directions"]
abbrev nm_are_runs : List Str := ["value", "directions", "one", "other", "run"]
abbrev nm_is_city : List Str := ["value"]
abbrev nm_read_number : List Str := ["word", "sign"]
abbrev nm_read_run : List Str := ["word", "count"]
abbrev nm_read_point : List Str := ["word", "numbers", "part"]
abbrev nm_is_path : List Str := ["value", "point", "number"]
abbrev nm_format_runs : List Str := ["runs", "direction", "count"]
abbrev nm_format_city : List Str := ["city"]
abbrev nm_format_drive : List Str := ["drive", "x", "y"]
abbrev nm_parse_city : List Str := ["text", "found", "part", "word"]
abbrev nm_parse_drive : List Str := ["text", "found", "word"]
abbrev nm__law_source : List Str := ["_law_script", "_law_k", "_law_cell"]
abbrev nm__law_draw : List Str := ["_law_source_here", "_law_bound", "_law_found", "_law_mixed"]
abbrev nm__law_runs : List Str := ["_law_source_here", "_law_pair", "_law_most", "_law_wide", "_law_at", "_law_found", "_law_k", "_law_count"]
abbrev nm__law_town : List Str := ["_law_source_here", "_law_most", "_law_wide"]
abbrev nm__law_number : List Str := ["_law_word", "_law_sign", "_law_total"]
abbrev nm__law_runs_of : List Str := ["_law_part", "_law_pair", "_law_found", "_law_word", "_law_many"]
abbrev nm__law_read : List Str := ["_law_door", "_law_note", "_law_parts", "_law_found", "_law_word", "_law_numbers_here", "_law_part"]
abbrev nm__law_is_number : List Str := ["_law_thing", "_law_low"]
abbrev nm__law_written : List Str := ["_law_door", "_law_thing", "_law_point", "_law_axis", "_law_pair", "_law_latest", "_law_run", "_law_runs_here", "_law_x", "_law_y", "_law_sign", "_law_many"]
abbrev nm__law_told : List Str := ["_law_door", "_law_thing", "_law_named", "_law_found"]
abbrev nm__law_right : List Str := ["_law_thing", "_law_named", "_law_before", "_law_due", "_law_found", "_law_door"]
abbrev nm__law_bent_text : List Str := ["_law_source_here", "_law_note", "_law_pieces", "_law_step", "_law_at", "_law_to", "_law_piece", "_law_ways"]
abbrev nm__law_bent : List Str := ["_law_source_here", "_law_thing", "_law_odd", "_law_at", "_law_way", "_law_parts"]
abbrev nm__law_long_right : List Str := ["_law_source_here", "_law_note", "_law_line", "_law_long_one", "_law_at", "_law_sign", "_law_changed", "_law_k"]
abbrev nm_law : List Str := ["_law_script", "_law_special", "_law_k", "_law_source_here", "_law_step", "_law_town_here", "_law_size", "_law_points", "_law_thing", "_law_spot"]
theorem sc_is_integer : FnScope nm_is_integer ["value", "low"] (defScope s_is_integer) := ⟨rfl, rfl, rfl, by decide +kernel, rfl, by decide +kernel, by decide +kernel⟩
theorem sc_is_run : FnScope nm_is_run ["value", "directions"] (defScope s_is_run) := ⟨rfl, rfl, rfl, by decide +kernel, rfl, by decide +kernel, by decide +kernel⟩
theorem sc_are_runs : FnScope nm_are_runs ["value", "directions"] (defScope s_are_runs) := ⟨rfl, rfl, rfl, by decide +kernel, rfl, by decide +kernel, by decide +kernel⟩
theorem sc_is_city : FnScope nm_is_city ["value"] (defScope s_is_city) := ⟨rfl, rfl, rfl, by decide +kernel, rfl, by decide +kernel, by decide +kernel⟩
theorem sc_read_number : FnScope nm_read_number ["word"] (defScope s_read_number) := ⟨rfl, rfl, rfl, by decide +kernel, rfl, by decide +kernel, by decide +kernel⟩
theorem sc_read_run : FnScope nm_read_run ["word"] (defScope s_read_run) := ⟨rfl, rfl, rfl, by decide +kernel, rfl, by decide +kernel, by decide +kernel⟩
theorem sc_read_point : FnScope nm_read_point ["word"] (defScope s_read_point) := ⟨rfl, rfl, rfl, by decide +kernel, rfl, by decide +kernel, by decide +kernel⟩
theorem sc_is_path : FnScope nm_is_path ["value"] (defScope s_is_path) := ⟨rfl, rfl, rfl, by decide +kernel, rfl, by decide +kernel, by decide +kernel⟩
theorem sc_format_runs : FnScope nm_format_runs ["runs"] (defScope s_format_runs) := ⟨rfl, rfl, rfl, by decide +kernel, rfl, by decide +kernel, by decide +kernel⟩
theorem sc_format_city : FnScope nm_format_city ["city"] (defScope s_format_city) := ⟨rfl, rfl, rfl, by decide +kernel, rfl, by decide +kernel, by decide +kernel⟩
theorem sc_format_drive : FnScope nm_format_drive ["drive"] (defScope s_format_drive) := ⟨rfl, rfl, rfl, by decide +kernel, rfl, by decide +kernel, by decide +kernel⟩
theorem sc_parse_city : FnScope nm_parse_city ["text"] (defScope s_parse_city) := ⟨rfl, rfl, rfl, by decide +kernel, rfl, by decide +kernel, by decide +kernel⟩
theorem sc_parse_drive : FnScope nm_parse_drive ["text"] (defScope s_parse_drive) := ⟨rfl, rfl, rfl, by decide +kernel, rfl, by decide +kernel, by decide +kernel⟩
theorem sc__law_source : FnScope nm__law_source ["_law_script", "_law_k"] (defScope s__law_source) := ⟨rfl, rfl, rfl, by decide +kernel, rfl, by decide +kernel, by decide +kernel⟩
theorem sc__law_draw : FnScope nm__law_draw ["_law_source_here", "_law_bound"] (defScope s__law_draw) := ⟨rfl, rfl, rfl, by decide +kernel, rfl, by decide +kernel, by decide +kernel⟩
theorem sc__law_runs : FnScope nm__law_runs ["_law_source_here", "_law_pair", "_law_most", "_law_wide"] (defScope s__law_runs) := ⟨rfl, rfl, rfl, by decide +kernel, rfl, by decide +kernel, by decide +kernel⟩
theorem sc__law_town : FnScope nm__law_town ["_law_source_here", "_law_most", "_law_wide"] (defScope s__law_town) := ⟨rfl, rfl, rfl, by decide +kernel, rfl, by decide +kernel, by decide +kernel⟩
theorem sc__law_number : FnScope nm__law_number ["_law_word"] (defScope s__law_number) := ⟨rfl, rfl, rfl, by decide +kernel, rfl, by decide +kernel, by decide +kernel⟩
theorem sc__law_runs_of : FnScope nm__law_runs_of ["_law_part", "_law_pair"] (defScope s__law_runs_of) := ⟨rfl, rfl, rfl, by decide +kernel, rfl, by decide +kernel, by decide +kernel⟩
theorem sc__law_read : FnScope nm__law_read ["_law_door", "_law_note"] (defScope s__law_read) := ⟨rfl, rfl, rfl, by decide +kernel, rfl, by decide +kernel, by decide +kernel⟩
theorem sc__law_is_number : FnScope nm__law_is_number ["_law_thing", "_law_low"] (defScope s__law_is_number) := ⟨rfl, rfl, rfl, by decide +kernel, rfl, by decide +kernel, by decide +kernel⟩
theorem sc__law_written : FnScope nm__law_written ["_law_door", "_law_thing"] (defScope s__law_written) := ⟨rfl, rfl, rfl, by decide +kernel, rfl, by decide +kernel, by decide +kernel⟩
theorem sc__law_told : FnScope nm__law_told ["_law_door", "_law_thing", "_law_named"] (defScope s__law_told) := ⟨rfl, rfl, rfl, by decide +kernel, rfl, by decide +kernel, by decide +kernel⟩
theorem sc__law_right : FnScope nm__law_right ["_law_thing", "_law_named"] (defScope s__law_right) := ⟨rfl, rfl, rfl, by decide +kernel, rfl, by decide +kernel, by decide +kernel⟩
theorem sc__law_bent_text : FnScope nm__law_bent_text ["_law_source_here", "_law_note"] (defScope s__law_bent_text) := ⟨rfl, rfl, rfl, by decide +kernel, rfl, by decide +kernel, by decide +kernel⟩
theorem sc__law_bent : FnScope nm__law_bent ["_law_source_here", "_law_thing"] (defScope s__law_bent) := ⟨rfl, rfl, rfl, by decide +kernel, rfl, by decide +kernel, by decide +kernel⟩
theorem sc__law_long_right : FnScope nm__law_long_right ["_law_source_here"] (defScope s__law_long_right) := ⟨rfl, rfl, rfl, by decide +kernel, rfl, by decide +kernel, by decide +kernel⟩
theorem sc_law : FnScope nm_law ["_law_script"] (defScope s_law) := ⟨rfl, rfl, rfl, by decide +kernel, rfl, by decide +kernel, by decide +kernel⟩
def kwl : List (List (Nat × List Str × List Nat)) := [[], [], [], [], [], [], [], [], [], [(0, [("city" : Str)], [0])], [(0, [("drive" : Str)], [0])], [(0, [("text" : Str)], [0])], [(0, [("text" : Str)], [0])], [], [], [], [], [], [], [], [], [], [], [], [], [], [], []]
def kwt : Nat → List (Nat × List Str × List Nat) := fun i => kwl.getD i []
structure Txt (K : PySem.W.Frag) (mg : Str → Option Value) (w : World) : Prop where
  nob : NoB mg
  gok : GOk ⟨K, w, none⟩ mg gns G
  t_is_integer : FnTxt K mg "is_integer" s_is_integer ["value", "low"] (kwt 0)
  t_is_run : FnTxt K mg "is_run" s_is_run ["value", "directions"] (kwt 1)
  t_are_runs : FnTxt K mg "are_runs" s_are_runs ["value", "directions"] (kwt 2)
  t_is_city : FnTxt K mg "is_city" s_is_city ["value"] (kwt 3)
  t_read_number : FnTxt K mg "read_number" s_read_number ["word"] (kwt 4)
  t_read_run : FnTxt K mg "read_run" s_read_run ["word"] (kwt 5)
  t_read_point : FnTxt K mg "read_point" s_read_point ["word"] (kwt 6)
  t_is_path : FnTxt K mg "is_path" s_is_path ["value"] (kwt 7)
  t_format_runs : FnTxt K mg "format_runs" s_format_runs ["runs"] (kwt 8)
  t_format_city : FnTxt K mg "format_city" s_format_city ["city"] (kwt 9)
  t_format_drive : FnTxt K mg "format_drive" s_format_drive ["drive"] (kwt 10)
  t_parse_city : FnTxt K mg "parse_city" s_parse_city ["text"] (kwt 11)
  t_parse_drive : FnTxt K mg "parse_drive" s_parse_drive ["text"] (kwt 12)
  t__law_source : FnTxt K mg "_law_source" s__law_source ["_law_script", "_law_k"] (kwt 13)
  t__law_draw : FnTxt K mg "_law_draw" s__law_draw ["_law_source_here", "_law_bound"] (kwt 14)
  t__law_runs : FnTxt K mg "_law_runs" s__law_runs ["_law_source_here", "_law_pair", "_law_most", "_law_wide"] (kwt 15)
  t__law_town : FnTxt K mg "_law_town" s__law_town ["_law_source_here", "_law_most", "_law_wide"] (kwt 16)
  t__law_number : FnTxt K mg "_law_number" s__law_number ["_law_word"] (kwt 17)
  t__law_runs_of : FnTxt K mg "_law_runs_of" s__law_runs_of ["_law_part", "_law_pair"] (kwt 18)
  t__law_read : FnTxt K mg "_law_read" s__law_read ["_law_door", "_law_note"] (kwt 19)
  t__law_is_number : FnTxt K mg "_law_is_number" s__law_is_number ["_law_thing", "_law_low"] (kwt 20)
  t__law_written : FnTxt K mg "_law_written" s__law_written ["_law_door", "_law_thing"] (kwt 21)
  t__law_told : FnTxt K mg "_law_told" s__law_told ["_law_door", "_law_thing", "_law_named"] (kwt 22)
  t__law_right : FnTxt K mg "_law_right" s__law_right ["_law_thing", "_law_named"] (kwt 23)
  t__law_bent_text : FnTxt K mg "_law_bent_text" s__law_bent_text ["_law_source_here", "_law_note"] (kwt 24)
  t__law_bent : FnTxt K mg "_law_bent" s__law_bent ["_law_source_here", "_law_thing"] (kwt 25)
  t__law_long_right : FnTxt K mg "_law_long_right" s__law_long_right ["_law_source_here"] (kwt 26)
  t_law : FnTxt K mg "law" s_law ["_law_script"] (kwt 27)
  x_CityError : ExTxt K mg "CityError"
  x_InvalidCity : ExTxt K mg "InvalidCity"
  x_InvalidDrive : ExTxt K mg "InvalidDrive"
  x_InvalidText : ExTxt K mg "InvalidText"
  m_CityError_InvalidCity : ExmTxt K mg "CityError" "InvalidCity" false
  m_CityError_InvalidDrive : ExmTxt K mg "CityError" "InvalidDrive" false
  m_CityError_InvalidText : ExmTxt K mg "CityError" "InvalidText" false
  m_InvalidCity_InvalidCity : ExmTxt K mg "InvalidCity" "InvalidCity" true
  m_InvalidCity_InvalidDrive : ExmTxt K mg "InvalidCity" "InvalidDrive" false
  m_InvalidCity_InvalidText : ExmTxt K mg "InvalidCity" "InvalidText" false
  m_InvalidDrive_InvalidCity : ExmTxt K mg "InvalidDrive" "InvalidCity" false
  m_InvalidDrive_InvalidDrive : ExmTxt K mg "InvalidDrive" "InvalidDrive" true
  m_InvalidDrive_InvalidText : ExmTxt K mg "InvalidDrive" "InvalidText" false
  m_InvalidText_InvalidCity : ExmTxt K mg "InvalidText" "InvalidCity" false
  m_InvalidText_InvalidDrive : ExmTxt K mg "InvalidText" "InvalidDrive" false
  m_InvalidText_InvalidText : ExmTxt K mg "InvalidText" "InvalidText" true
section
variable {P : Program} {w : World} {K : PySem.W.Frag} {mg : Str → Option Value} {base : Heap} {k : Nat} {C : CallSem}
theorem at_is_integer (tx : Txt K mg w) (cc : Calls P w K mg base k nms kwt T C) : FnAt P w K mg base (k + 1) "is_integer" 2 (kwt 0) (fun ds S => if ds.length = 2 then trim S (endR (run W C G bd_is_integer (startE 2 ds) S)) else .bad) := by
  obtain ⟨f, fdd, hm, ⟨_, F⟩, hb, hkb⟩ := tx.t_is_integer.ex
  refine def_ok (fd := fd_is_integer) (i := f_is_integer) (T := T) (C := C) (G := G) (n := W) tx.nob F sc_is_integer rfl rfl rfl hm hb hkb ?_
  intro cdv A outer s H E cx room tk ow
  have gok := fun y => GOk.kw (y := y) tx.gok
  exact (dss_cons (ds_ret (de_and (de_biB cx m_isinstance bi_isinst (by rfl) b_isinstance (da_cons (de_var (pv 0)) (da_cons (de_ty cx m_int (by rfl) b_int)
  da_nil))) (de_and (de_nt (de_biB cx m_isinstance bi_isinst (by rfl) b_isinstance (da_cons (de_var (pv 0)) (da_cons (de_ty cx m_bool (by rfl) b_bool)
  da_nil)))) (pe_one (de_cmp cx (de_var (pv 0)) (de_var (pv 1)))))))
  dss_nil)
theorem at_is_run (tx : Txt K mg w) (cc : Calls P w K mg base k nms kwt T C) : FnAt P w K mg base (k + 1) "is_run" 2 (kwt 1) (fun ds S => if ds.length = 2 then trim S (endR (run W C G bd_is_run (startE 2 ds) S)) else .bad) := by
  obtain ⟨f, fdd, hm, ⟨_, F⟩, hb, hkb⟩ := tx.t_is_run.ex
  refine def_ok (fd := fd_is_run) (i := f_is_run) (T := T) (C := C) (G := G) (n := W) tx.nob F sc_is_run rfl rfl rfl hm hb hkb ?_
  intro cdv A outer s H E cx room tk ow
  have gok := fun y => GOk.kw (y := y) tx.gok
  exact (dss_cons (ds_if (dw_or (dt_nt (dt_tru (de_biB cx m_isinstance bi_isinst (by rfl) b_isinstance (da_cons (de_var (pv 0)) (da_cons (de_ty cx m_tuple
  (by rfl) b_tuple) da_nil))))) (dw_one_or (dt_cmp cx (de_biB cx m_len bi_len (by rfl) b_len (da_cons (de_var (pv 0)) da_nil)) de_int))).pt (dss_cons (ds_ret
  de_bl)
  dss_nil) dss_nil)
  (dss_cons (ds_ret (de_and (de_biB cx m_isinstance bi_isinst (by rfl) b_isinstance (da_cons (de_ix cx (de_var (pv 0)) de_int)
  (da_cons (de_ty cx m_str (by rfl) b_str) da_nil))) (de_and (de_cmp cx (de_ix cx (de_var (pv 0)) de_int) (de_var (pv 1))) (pe_one (de_call cc (i := 0)
  (by rfl) (by rfl) cx room tk (by rfl) (da_cons (de_ix cx (de_var (pv 0)) de_int) (da_cons de_int da_nil)))))))
  dss_nil))
theorem at_are_runs (tx : Txt K mg w) (cc : Calls P w K mg base k nms kwt T C) : FnAt P w K mg base (k + 1) "are_runs" 2 (kwt 2) (fun ds S => if ds.length = 2 then trim S (endR (run W C G bd_are_runs (startE 5 ds) S)) else .bad) := by
  obtain ⟨f, fdd, hm, ⟨_, F⟩, hb, hkb⟩ := tx.t_are_runs.ex
  refine def_ok (fd := fd_are_runs) (i := f_are_runs) (T := T) (C := C) (G := G) (n := W) tx.nob F sc_are_runs rfl rfl rfl hm hb hkb ?_
  intro cdv A outer s H E cx room tk ow
  have gok := fun y => GOk.kw (y := y) tx.gok
  exact (dss_cons (ds_if (dw_or (dt_nt (dt_tru (de_biB cx m_isinstance bi_isinst (by rfl) b_isinstance (da_cons (de_var (pv 0)) (da_cons (de_ty cx m_tuple
  (by rfl) b_tuple) da_nil))))) (dw_or (dt_cmp cx (de_biB cx m_len bi_len (by rfl) b_len (da_cons (de_var (pv 0)) da_nil)) de_int) (dw_one_or (dt_nt (dt_tru
  (de_biB cx m_all (bi_all (cx.calm rfl)) (by rfl) b_all (da_cons (de_frzv (de_lc (own := [("run", 4)]) cx (di_itr (de_var (pv 0))) (blkOk_by (own := [("run",
  4)]) (N := nm_are_runs) (sc := defScope s_are_runs) (by decide +kernel)) (fun _ _ _ _ _ => (dg_name (pg_name (i := 4) (cx.blk _ _ _ _ _).nd rfl (.inl rfl))))
  (fun _ _ _ _ _ => dts_nil) (fun _ _ _ _ _ => (de_call cc (i := 1) (by rfl) (by rfl) (cx.blk _ _ _ _ _) room takes0 (by rfl) (da_cons (de_var (pv 4)) (da_cons
  (de_var (pv 1)) da_nil)))) (by decide))) da_nil))))))).pt (dss_cons (ds_ret de_bl)
  dss_nil) dss_nil)
  (dss_cons (ds_ret (de_biB cx m_all (bi_all (cx.calm
  rfl)) (by rfl) b_all (da_cons (de_frzv (de_lc (own := [("one", 2), ("other", 3)]) cx (di_zip2 cx (by rfl) (de_var (pv 0)) (de_frzv (de_sl (de_var (pv 0))
  (dp_some de_int) dp_none))) (blkOk_by (own := [("one", 2), ("other", 3)]) (N := nm_are_runs) (sc := defScope s_are_runs) (by decide +kernel)) (fun _ _ _ _ _
  => (dg_tup ((cx.blk _ _ _ _ _).calm rfl) (dgs_cons (dg_name (pg_name (i := 2) (cx.blk _ _ _ _ _).nd rfl (.inl rfl))) (dgs_cons (dg_name (pg_name (i := 3)
  (cx.blk _ _ _ _ _).nd rfl (.inl rfl))) dgs_nil)))) (fun _ _ _ _ _ => dts_nil) (fun _ _ _ _ _ => (de_cmp (cx.blk _ _ _ _ _) (de_ix (cx.blk _ _ _ _ _) (de_var
  (pv 2)) de_int) (de_ix (cx.blk _ _ _ _ _) (de_var (pv 3)) de_int))) (by decide))) da_nil)))
  dss_nil))
theorem at_is_city (tx : Txt K mg w) (cc : Calls P w K mg base k nms kwt T C) : FnAt P w K mg base (k + 1) "is_city" 1 (kwt 3) (fun ds S => if ds.length = 1 then trim S (endR (run W C G bd_is_city (startE 1 ds) S)) else .bad) := by
  obtain ⟨f, fdd, hm, ⟨_, F⟩, hb, hkb⟩ := tx.t_is_city.ex
  refine def_ok (fd := fd_is_city) (i := f_is_city) (T := T) (C := C) (G := G) (n := W) tx.nob F sc_is_city rfl rfl rfl hm hb hkb ?_
  intro cdv A outer s H E cx room tk ow
  have gok := fun y => GOk.kw (y := y) tx.gok
  exact (dss_cons (ds_if (dw_or (dt_nt (dt_tru (de_biB cx m_isinstance bi_isinst (by rfl) b_isinstance (da_cons (de_var (pv 0)) (da_cons (de_ty cx m_tuple
  (by rfl) b_tuple) da_nil))))) (dw_one_or (dt_cmp cx (de_biB cx m_len bi_len (by rfl) b_len (da_cons (de_var (pv 0)) da_nil)) de_int))).pt (dss_cons (ds_ret
  de_bl)
  dss_nil) dss_nil)
  (dss_cons (ds_ret (de_and (de_call cc (i := 2) (by rfl) (by rfl) cx room tk (by rfl) (da_cons (de_ix cx (de_var (pv 0)) de_int)
  (da_cons (de_tup (da_cons (de_glo (gok _) (i := 0) rfl (by rfl)) (da_cons (de_glo (gok _) (i := 1) rfl (by rfl)) da_nil))) da_nil))) (pe_one (de_call cc (i
  := 2) (by rfl) (by rfl) cx room tk (by rfl) (da_cons (de_ix cx (de_var (pv 0)) de_int) (da_cons (de_tup (da_cons (de_glo (gok _) (i := 2) rfl (by rfl))
  (da_cons (de_glo (gok _) (i := 3) rfl (by rfl)) da_nil))) da_nil))))))
  dss_nil))
theorem at_read_number (tx : Txt K mg w) (cc : Calls P w K mg base k nms kwt T C) : FnAt P w K mg base (k + 1) "read_number" 1 (kwt 4) (fun ds S => if ds.length = 1 then trim S (endR (run W C G bd_read_number (startE 2 ds) S)) else .bad) := by
  obtain ⟨f, fdd, hm, ⟨_, F⟩, hb, hkb⟩ := tx.t_read_number.ex
  refine def_ok (fd := fd_read_number) (i := f_read_number) (T := T) (C := C) (G := G) (n := W) tx.nob F sc_read_number rfl rfl rfl hm hb hkb ?_
  intro cdv A outer s H E cx room tk ow
  have gok := fun y => GOk.kw (y := y) tx.gok
  exact (dss_cons (ds_if (dw_or (dt_cmp cx (de_var (pv 0)) de_str) (dw_one_or (dt_nt (dt_tru (de_biB cx m_all (bi_all (cx.calm rfl)) (by rfl) b_all (da_cons
  (de_frzv (de_lc (own := [("sign", 1)]) cx (di_itr (de_var (pv 0))) (blkOk_by (own := [("sign", 1)]) (N := nm_read_number) (sc := defScope s_read_number)
  (by decide +kernel)) (fun _ _ _ _ _ => (dg_name (pg_name (i := 1) (cx.blk _ _ _ _ _).nd rfl (.inl rfl)))) (fun _ _ _ _ _ => dts_nil) (fun _ _ _ _ _ =>
  (de_cmp (cx.blk _ _ _ _ _) (de_var (pv 1)) (de_glo (gok _) (i := 7) rfl (by rfl)))) (by decide))) da_nil)))))).pt (dss_cons (ds_ret de_non)
  dss_nil)
  dss_nil)
  (dss_cons (ds_ret (de_ife (dw_or (dt_cmp cx (de_ix cx (de_var (pv 0)) de_int) de_str) (dw_one_or (dt_cmp cx (de_var (pv 0)) de_str))).pt (de_prT
  cx m_int bi_intT (by rfl) b_int (da_cons (de_var (pv 0)) da_nil)) de_non))
  dss_nil))
theorem at_read_run (tx : Txt K mg w) (cc : Calls P w K mg base k nms kwt T C) : FnAt P w K mg base (k + 1) "read_run" 1 (kwt 5) (fun ds S => if ds.length = 1 then trim S (endR (run W C G bd_read_run (startE 2 ds) S)) else .bad) := by
  obtain ⟨f, fdd, hm, ⟨_, F⟩, hb, hkb⟩ := tx.t_read_run.ex
  refine def_ok (fd := fd_read_run) (i := f_read_run) (T := T) (C := C) (G := G) (n := W) tx.nob F sc_read_run rfl rfl rfl hm hb hkb ?_
  intro cdv A outer s H E cx room tk ow
  have gok := fun y => GOk.kw (y := y) tx.gok
  exact (dss_cons (ds_asg (de_call cc (i := 4) (by rfl) (by rfl) cx room tk (by rfl) (da_cons (de_frzv (de_sl (de_var (pv 0)) (dp_some de_int) dp_none))
  da_nil)) (dgu_bind (dg_name (pg_name (i := 1) cx.nd rfl (.inl rfl)))))
  (dss_cons (ds_ret (de_ife (dt_cmp cx (de_var (pv 1)) de_non) de_non (de_tup (da_cons
  (de_ix cx (de_var (pv 0)) de_int) (da_cons (de_var (pv 1)) da_nil)))))
  dss_nil))
theorem at_read_point (tx : Txt K mg w) (cc : Calls P w K mg base k nms kwt T C) : FnAt P w K mg base (k + 1) "read_point" 1 (kwt 6) (fun ds S => if ds.length = 1 then trim S (endR (run W C G bd_read_point (startE 3 ds) S)) else .bad) := by
  obtain ⟨f, fdd, hm, ⟨_, F⟩, hb, hkb⟩ := tx.t_read_point.ex
  refine def_ok (fd := fd_read_point) (i := f_read_point) (T := T) (C := C) (G := G) (n := W) tx.nob F sc_read_point rfl rfl rfl hm hb hkb ?_
  intro cdv A outer s H E cx room tk ow
  have gok := fun y => GOk.kw (y := y) tx.gok
  exact (dss_cons (ds_fz (i := 1) (ds_setLc (i := 1) (own := [("part", 2)]) cx rfl rfl (sw_true rfl rfl rfl (by decide +kernel)) (di_itr (de_split (de_var (pv
  0)) (de_glo (gok _) (i := 6) rfl (by rfl)))) (blkOk_by (own := [("part", 2)]) (N := nm_read_point) (sc := defScope s_read_point) (by decide +kernel)) (fun _
  _ _ _ _ => (dg_name (pg_name (i := 2) (cx.blk _ _ _ _ _).nd rfl (.inl rfl)))) (fun _ _ _ _ _ => dts_nil) (fun _ _ _ _ _ => (de_call cc (i := 4) (by rfl)
  (by rfl) (cx.blk _ _ _ _ _) room takes0 (by rfl) (da_cons (de_var (pv 2)) da_nil))) (by decide)))
  (dss_cons (ds_ret (de_ife (dw_and (dt_cmp cx (de_biB cx
  m_len bi_len (by rfl) b_len (da_cons (de_var (pv 1)) da_nil)) de_int) (dw_one_and (dt_cmp cx de_non (de_var (pv 1))))).pt (de_biT cx m_tuple bi_tuple
  (by rfl) b_tuple (da_cons (de_var (pv 1)) da_nil)) de_non))
  dss_nil))
theorem at_is_path (tx : Txt K mg w) (cc : Calls P w K mg base k nms kwt T C) : FnAt P w K mg base (k + 1) "is_path" 1 (kwt 7) (fun ds S => if ds.length = 1 then trim S (endR (run W C G bd_is_path (startE 3 ds) S)) else .bad) := by
  obtain ⟨f, fdd, hm, ⟨_, F⟩, hb, hkb⟩ := tx.t_is_path.ex
  refine def_ok (fd := fd_is_path) (i := f_is_path) (T := T) (C := C) (G := G) (n := W) tx.nob F sc_is_path rfl rfl rfl hm hb hkb ?_
  intro cdv A outer s H E cx room tk ow
  have gok := fun y => GOk.kw (y := y) tx.gok
  exact (dss_cons (ds_if (dw_or (dt_nt (dt_tru (de_biB cx m_isinstance bi_isinst (by rfl) b_isinstance (da_cons (de_var (pv 0)) (da_cons (de_ty cx m_list
  (by rfl) b_list) da_nil))))) (dw_one_or (dt_cmp cx (de_var (pv 0)) (de_frzv (de_lst da_nil))))).pt (dss_cons (ds_ret de_bl)
  dss_nil) dss_nil)
  (dss_cons
  (ds_for ow (cx.calm rfl) (di_itr (de_var (pv 0))) (dg_name (pg_name (i := 1) cx.nd rfl (.inl rfl))) (dss_cons (ds_if (dw_or (dt_nt (dt_tru (de_biB cx
  m_isinstance bi_isinst (by rfl) b_isinstance (da_cons (de_var (pv 1)) (da_cons (de_ty cx m_tuple (by rfl) b_tuple) da_nil))))) (dw_or (dt_cmp cx (de_biB cx
  m_len bi_len (by rfl) b_len (da_cons (de_var (pv 1)) da_nil)) de_int) (dw_one_or (dt_nt (dt_tru (de_biB cx m_all (bi_all (cx.calm rfl)) (by rfl) b_all
  (da_cons (de_frzv (de_lc (own := [("number", 2)]) cx (di_itr (de_var (pv 1))) (blkOk_by (own := [("number", 2)]) (N := nm_is_path) (sc := defScope s_is_path)
  (by decide +kernel)) (fun _ _ _ _ _ => (dg_name (pg_name (i := 2) (cx.blk _ _ _ _ _).nd rfl (.inl rfl)))) (fun _ _ _ _ _ => dts_nil) (fun _ _ _ _ _ =>
  (de_call cc (i := 0) (by rfl) (by rfl) (cx.blk _ _ _ _ _) room takes0 (by rfl) (da_cons (de_var (pv 2)) (da_cons de_int da_nil)))) (by decide)))
  da_nil))))))).pt (dss_cons (ds_ret de_bl)
  dss_nil) dss_nil)
  dss_nil))
  (dss_cons (ds_ret de_bl)
  dss_nil)))
theorem at_format_runs (tx : Txt K mg w) (cc : Calls P w K mg base k nms kwt T C) : FnAt P w K mg base (k + 1) "format_runs" 1 (kwt 8) (fun ds S => if ds.length = 1 then trim S (endR (run W C G bd_format_runs (startE 3 ds) S)) else .bad) := by
  obtain ⟨f, fdd, hm, ⟨_, F⟩, hb, hkb⟩ := tx.t_format_runs.ex
  refine def_ok (fd := fd_format_runs) (i := f_format_runs) (T := T) (C := C) (G := G) (n := W) tx.nob F sc_format_runs rfl rfl rfl hm hb hkb ?_
  intro cdv A outer s H E cx room tk ow
  have gok := fun y => GOk.kw (y := y) tx.gok
  exact (dss_cons (ds_ret (de_join (de_glo (gok _) (i := 4) rfl (by rfl)) (de_frzv (de_lc (own := [("direction", 1), ("count", 2)]) cx (di_itr (de_var (pv 0)))
  (blkOk_by (own := [("direction", 1), ("count", 2)]) (N := nm_format_runs) (sc := defScope s_format_runs) (by decide +kernel)) (fun _ _ _ _ _ => (dg_tup
  ((cx.blk _ _ _ _ _).calm rfl) (dgs_cons (dg_name (pg_name (i := 1) (cx.blk _ _ _ _ _).nd rfl (.inl rfl))) (dgs_cons (dg_name (pg_name (i := 2) (cx.blk _ _ _
  _ _).nd rfl (.inl rfl))) dgs_nil)))) (fun _ _ _ _ _ => dts_nil) (fun _ _ _ _ _ => (de_bin (de_var (pv 1)) (de_biT (cx.blk _ _ _ _ _) m_str bi_str (by rfl)
  b_str (da_cons (de_var (pv 2)) da_nil)))) (by decide)))))
  dss_nil)
theorem at_format_city (tx : Txt K mg w) (cc : Calls P w K mg base k nms kwt T C) : FnAt P w K mg base (k + 1) "format_city" 1 (kwt 9) (fun ds S => if ds.length = 1 then trim S (endR (run W C G bd_format_city (startE 1 ds) S)) else .bad) := by
  obtain ⟨f, fdd, hm, ⟨_, F⟩, hb, hkb⟩ := tx.t_format_city.ex
  refine def_ok (fd := fd_format_city) (i := f_format_city) (T := T) (C := C) (G := G) (n := W) tx.nob F sc_format_city rfl rfl rfl hm hb hkb ?_
  intro cdv A outer s H E cx room tk ow
  have gok := fun y => GOk.kw (y := y) tx.gok
  exact (dss_cons (ds_if (dt_nt (dt_tru (de_call cc (i := 3) (by rfl) (by rfl) cx room tk (by rfl) (da_cons (de_var (pv 0)) da_nil)))) (dss_cons (ds_raise0 (c
  := 1) (by rfl) tx.x_InvalidCity cx tk (by rfl))
  dss_nil) dss_nil)
  (dss_cons (ds_ret (de_bin (de_bin (de_call cc (i := 8) (by rfl) (by rfl) cx room tk
  (by rfl) (da_cons (de_ix cx (de_var (pv 0)) de_int) da_nil)) (de_glo (gok _) (i := 5) rfl (by rfl))) (de_call cc (i := 8) (by rfl) (by rfl) cx room tk
  (by rfl) (da_cons (de_ix cx (de_var (pv 0)) de_int) da_nil))))
  dss_nil))
theorem at_format_drive (tx : Txt K mg w) (cc : Calls P w K mg base k nms kwt T C) : FnAt P w K mg base (k + 1) "format_drive" 1 (kwt 10) (fun ds S => if ds.length = 1 then trim S (endR (run W C G bd_format_drive (startE 3 ds) S)) else .bad) := by
  obtain ⟨f, fdd, hm, ⟨_, F⟩, hb, hkb⟩ := tx.t_format_drive.ex
  refine def_ok (fd := fd_format_drive) (i := f_format_drive) (T := T) (C := C) (G := G) (n := W) tx.nob F sc_format_drive rfl rfl rfl hm hb hkb ?_
  intro cdv A outer s H E cx room tk ow
  have gok := fun y => GOk.kw (y := y) tx.gok
  exact (dss_cons (ds_if (dt_nt (dt_tru (de_call cc (i := 7) (by rfl) (by rfl) cx room tk (by rfl) (da_cons (de_var (pv 0)) da_nil)))) (dss_cons (ds_raise0 (c
  := 5) (by rfl) tx.x_InvalidDrive cx tk (by rfl))
  dss_nil) dss_nil)
  (dss_cons (ds_ret (de_join (de_glo (gok _) (i := 4) rfl (by rfl)) (de_frzv (de_lc (own
  := [("x", 1), ("y", 2)]) cx (di_itr (de_var (pv 0))) (blkOk_by (own := [("x", 1), ("y", 2)]) (N := nm_format_drive) (sc := defScope s_format_drive)
  (by decide +kernel)) (fun _ _ _ _ _ => (dg_tup ((cx.blk _ _ _ _ _).calm rfl) (dgs_cons (dg_name (pg_name (i := 1) (cx.blk _ _ _ _ _).nd rfl (.inl rfl)))
  (dgs_cons (dg_name (pg_name (i := 2) (cx.blk _ _ _ _ _).nd rfl (.inl rfl))) dgs_nil)))) (fun _ _ _ _ _ => dts_nil) (fun _ _ _ _ _ => (de_bin (de_bin (de_biT
  (cx.blk _ _ _ _ _) m_str bi_str (by rfl) b_str (da_cons (de_var (pv 1)) da_nil)) (de_glo (gok _) (i := 6) rfl (by rfl))) (de_biT (cx.blk _ _ _ _ _) m_str
  bi_str (by rfl) b_str (da_cons (de_var (pv 2)) da_nil)))) (by decide)))))
  dss_nil))
theorem at_parse_city (tx : Txt K mg w) (cc : Calls P w K mg base k nms kwt T C) : FnAt P w K mg base (k + 1) "parse_city" 1 (kwt 11) (fun ds S => if ds.length = 1 then trim S (endR (run W C G bd_parse_city (startE 4 ds) S)) else .bad) := by
  obtain ⟨f, fdd, hm, ⟨_, F⟩, hb, hkb⟩ := tx.t_parse_city.ex
  refine def_ok (fd := fd_parse_city) (i := f_parse_city) (T := T) (C := C) (G := G) (n := W) tx.nob F sc_parse_city rfl rfl rfl hm hb hkb ?_
  intro cdv A outer s H E cx room tk ow
  have gok := fun y => GOk.kw (y := y) tx.gok
  exact (dss_cons (ds_if (dt_nt (dt_tru (de_biB cx m_isinstance bi_isinst (by rfl) b_isinstance (da_cons (de_var (pv 0)) (da_cons (de_ty cx m_str (by rfl)
  b_str) da_nil))))) (dss_cons (ds_raise0 (c := 7) (by rfl) tx.x_InvalidText cx tk (by rfl))
  dss_nil) dss_nil)
  (dss_cons (ds_asg (de_biT cx m_tuple
  bi_tuple (by rfl) b_tuple (da_cons (de_frzv (de_lc (own := [("part", 2)]) cx (di_itr (de_split (de_var (pv 0)) (de_glo (gok _) (i := 5) rfl (by rfl))))
  (blkOk_by (own := [("part", 2)]) (N := nm_parse_city) (sc := defScope s_parse_city) (by decide +kernel)) (fun _ _ _ _ _ => (dg_name (pg_name (i := 2) (cx.blk
  _ _ _ _ _).nd rfl (.inl rfl)))) (fun _ _ _ _ _ => dts_nil) (fun _ _ _ _ _ => (de_biT (cx.blk _ _ _ _ _) m_tuple bi_tuple (by rfl) b_tuple (da_cons (de_frzv
  (de_lc (own := [("word", 3)]) (cx.blk _ _ _ _ _) (di_itr (de_split (de_var (pv 2)) (de_glo (gok _) (i := 4) rfl (by rfl)))) (blkOk_by (own := [("word", 3)])
  (by rfl)) (fun _ _ _ _ _ => (dg_name (pg_name (i := 3) ((cx.blk _ _ _ _ _).blk _ _ _ _ _).nd rfl (.inl rfl)))) (fun _ _ _ _ _ => dts_nil) (fun _ _ _ _ _ =>
  (de_call cc (i := 5) (by rfl) (by rfl) ((cx.blk _ _ _ _ _).blk _ _ _ _ _) room takes0 (by rfl) (da_cons (de_var (pv 3)) da_nil))) (by decide))) da_nil)))
  (by decide))) da_nil)) (dgu_bind (dg_name (pg_name (i := 1) cx.nd rfl (.inl rfl)))))
  (dss_cons (ds_if (dt_nt (dt_tru (de_call cc (i := 3) (by rfl) (by rfl)
  cx room tk (by rfl) (da_cons (de_var (pv 1)) da_nil)))) (dss_cons (ds_raise0 (c := 7) (by rfl) tx.x_InvalidText cx tk (by rfl))
  dss_nil) dss_nil)
  (dss_cons (ds_ret (de_var (pv 1)))
  dss_nil))))
theorem at_parse_drive (tx : Txt K mg w) (cc : Calls P w K mg base k nms kwt T C) : FnAt P w K mg base (k + 1) "parse_drive" 1 (kwt 12) (fun ds S => if ds.length = 1 then trim S (endR (run W C G bd_parse_drive (startE 3 ds) S)) else .bad) := by
  obtain ⟨f, fdd, hm, ⟨_, F⟩, hb, hkb⟩ := tx.t_parse_drive.ex
  refine def_ok (fd := fd_parse_drive) (i := f_parse_drive) (T := T) (C := C) (G := G) (n := W) tx.nob F sc_parse_drive rfl rfl rfl hm hb hkb ?_
  intro cdv A outer s H E cx room tk ow
  have gok := fun y => GOk.kw (y := y) tx.gok
  exact (dss_cons (ds_if (dt_nt (dt_tru (de_biB cx m_isinstance bi_isinst (by rfl) b_isinstance (da_cons (de_var (pv 0)) (da_cons (de_ty cx m_str (by rfl)
  b_str) da_nil))))) (dss_cons (ds_raise0 (c := 7) (by rfl) tx.x_InvalidText cx tk (by rfl))
  dss_nil) dss_nil)
  (dss_cons (ds_fz (i := 1) (ds_setLc (i := 1)
  (own := [("word", 2)]) cx rfl rfl (sw_true rfl rfl rfl (by decide +kernel)) (di_itr (de_split (de_var (pv 0)) (de_glo (gok _) (i := 4) rfl (by rfl))))
  (blkOk_by (own := [("word", 2)]) (N := nm_parse_drive) (sc := defScope s_parse_drive) (by decide +kernel)) (fun _ _ _ _ _ => (dg_name (pg_name (i := 2)
  (cx.blk _ _ _ _ _).nd rfl (.inl rfl)))) (fun _ _ _ _ _ => dts_nil) (fun _ _ _ _ _ => (de_call cc (i := 6) (by rfl) (by rfl) (cx.blk _ _ _ _ _) room takes0
  (by rfl) (da_cons (de_var (pv 2)) da_nil))) (by decide)))
  (dss_cons (ds_if (dt_cmp cx de_non (de_var (pv 1))) (dss_cons (ds_raise0 (c := 7) (by rfl)
  tx.x_InvalidText cx tk (by rfl))
  dss_nil) dss_nil)
  (dss_cons (ds_ret (de_var (pv 1)))
  dss_nil))))
theorem at__law_source (tx : Txt K mg w) (cc : Calls P w K mg base k nms kwt T C) : FnAt P w K mg base (k + 1) "_law_source" 2 (kwt 13) (fun ds S => if ds.length = 2 then trim S (endR (run W C G bd__law_source (startE 3 ds) S)) else .bad) := by
  obtain ⟨f, fdd, hm, ⟨_, F⟩, hb, hkb⟩ := tx.t__law_source.ex
  refine def_ok (fd := fd__law_source) (i := f__law_source) (T := T) (C := C) (G := G) (n := W) tx.nob F sc__law_source rfl rfl rfl hm hb hkb ?_
  intro cdv A outer s H E cx room tk ow
  have gok := fun y => GOk.kw (y := y) tx.gok
  exact (dss_cons (ds_asg (de_ife (dt_cmp cx (de_var (pv 1)) (de_biB cx m_len bi_len (by rfl) b_len (da_cons (de_var (pv 0)) da_nil))) (de_ix cx (de_var (pv
  0)) (de_var (pv 1))) de_int) (dgu_bind (dg_name (pg_name (i := 2) cx.nd rfl (.inl rfl)))))
  (dss_cons (ds_ret (de_lst (da_cons (de_biB cx m_max (bi_max
  (cx.calm rfl)) (by rfl) b_max (da_cons de_int (da_cons (de_bin (de_biB cx m_abs bi_abs (by rfl) b_abs (da_cons (de_var (pv 2)) da_nil)) (de_bin de_int
  de_int)) da_nil))) (da_cons (de_bin (de_bin (de_var (pv 2)) (de_bin (de_bin de_int de_int) de_int)) (de_bin de_int (de_var (pv 1)))) (da_cons de_int
  da_nil)))))
  dss_nil))
theorem at__law_draw (tx : Txt K mg w) (cc : Calls P w K mg base k nms kwt T C) : FnAt P w K mg base (k + 1) "_law_draw" 2 (kwt 14) (fun ds S => if ds.length = 2 then trim S (endR (run W C G bd__law_draw (startE 4 ds) S)) else .bad) := by
  obtain ⟨f, fdd, hm, ⟨_, F⟩, hb, hkb⟩ := tx.t__law_draw.ex
  refine def_ok (fd := fd__law_draw) (i := f__law_draw) (T := T) (C := C) (G := G) (n := W) tx.nob F sc__law_draw rfl rfl rfl hm hb hkb ?_
  intro cdv A outer s H E cx room tk ow
  have gok := fun y => GOk.kw (y := y) tx.gok
  exact (dss_cons (ds_if (dt_cmp cx (de_ix cx (de_var (pv 0)) de_int) de_int) (dss_cons (ds_asg (de_bin (de_ix cx (de_var (pv 0)) de_int) (de_var (pv 1)))
  (dgu_bind (dg_name (pg_name (i := 2) cx.nd rfl (.inl rfl)))))
  (dss_cons (ds_asg (de_bin (de_ix cx (de_var (pv 0)) de_int) (de_var (pv 1))) (dgu_ix cx
  (de_var (pv 0)) de_int))
  (dss_cons (ds_ret (de_var (pv 2)))
  dss_nil))) dss_nil)
  (dss_cons (ds_asg (de_bin (de_ix cx (de_var (pv 0)) de_int) de_int)
  (dgu_ix cx (de_var (pv 0)) de_int))
  (dss_cons (ds_asg (de_bin (de_bin (de_bin (de_ix cx (de_var (pv 0)) de_int) (de_bin de_int (de_ix cx (de_var (pv 0))
  de_int))) de_int) (de_bin (de_bin de_int de_int) de_int)) (dgu_bind (dg_name (pg_name (i := 3) cx.nd rfl (.inl rfl)))))
  (dss_cons (ds_asg (de_bin (de_bin
  (de_bin (de_var (pv 3)) (de_bin de_int (de_ix cx (de_var (pv 0)) de_int))) de_int) (de_bin (de_bin de_int de_int) de_int)) (dgu_bind (dg_name (pg_name (i :=
  3) cx.nd rfl (.inl rfl)))))
  (dss_cons (ds_ret (de_bin (de_bin (de_var (pv 3)) de_int) (de_var (pv 1))))
  dss_nil)))))
theorem at__law_runs (tx : Txt K mg w) (cc : Calls P w K mg base k nms kwt T C) : FnAt P w K mg base (k + 1) "_law_runs" 4 (kwt 15) (fun ds S => if ds.length = 4 then trim S (endR (run W C G bd__law_runs (startE 8 ds) S)) else .bad) := by
  obtain ⟨f, fdd, hm, ⟨_, F⟩, hb, hkb⟩ := tx.t__law_runs.ex
  refine def_ok (fd := fd__law_runs) (i := f__law_runs) (T := T) (C := C) (G := G) (n := W) tx.nob F sc__law_runs rfl rfl rfl hm hb hkb ?_
  intro cdv A outer s H E cx room tk ow
  have gok := fun y => GOk.kw (y := y) tx.gok
  exact (dss_cons (ds_par2 (i := 4) (j := 5) (cx.calm rfl) cx.nd rfl rfl (by decide) rfl rfl (da_cons (de_call cc (i := 14) (by rfl) (by rfl) cx room tk
  (by rfl) (da_cons (de_var (pv 0)) (da_cons de_int da_nil))) (da_cons (de_lst da_nil) da_nil)) (by rfl))
  (dss_cons (ds_fz (i := 5) (ds_for ow (cx.calm rfl)
  (di_rng1 cx (by rfl) (de_bin de_int (de_call cc (i := 14) (by rfl) (by rfl) cx room tk (by rfl) (da_cons (de_var (pv 0)) (da_cons (de_var (pv 2)) da_nil)))))
  (dg_name (pg_name (i := 6) cx.nd rfl (.inl rfl))) (dss_cons (ds_asg (de_ix cx (de_frzv (de_lst (da_cons de_int (da_cons (de_bin de_int (de_call cc (i := 14)
  (by rfl) (by rfl) cx room tk (by rfl) (da_cons (de_var (pv 0)) (da_cons de_int da_nil)))) (da_cons (de_bin de_int (de_call cc (i := 14) (by rfl) (by rfl) cx
  room tk (by rfl) (da_cons (de_var (pv 0)) (da_cons (de_var (pv 3)) da_nil)))) da_nil))))) (de_call cc (i := 14) (by rfl) (by rfl) cx room tk (by rfl)
  (da_cons (de_var (pv 0)) (da_cons de_int da_nil)))) (dgu_bind (dg_name (pg_name (i := 7) cx.nd rfl (.inl rfl)))))
  (dss_cons (ds_expr (de_mt mi_append
  (de_var (pv 5)) (da_cons (de_tup (da_cons (de_ix cx (de_var (pv 1)) (de_bin (de_bin (de_var (pv 4)) (de_var (pv 6))) de_int)) (da_cons (de_var (pv 7))
  da_nil))) da_nil)))
  dss_nil))))
  (dss_cons (ds_ret (de_biT cx m_tuple bi_tuple (by rfl) b_tuple (da_cons (de_var (pv 5)) da_nil)))
  dss_nil)))
theorem at__law_town (tx : Txt K mg w) (cc : Calls P w K mg base k nms kwt T C) : FnAt P w K mg base (k + 1) "_law_town" 3 (kwt 16) (fun ds S => if ds.length = 3 then trim S (endR (run W C G bd__law_town (startE 3 ds) S)) else .bad) := by
  obtain ⟨f, fdd, hm, ⟨_, F⟩, hb, hkb⟩ := tx.t__law_town.ex
  refine def_ok (fd := fd__law_town) (i := f__law_town) (T := T) (C := C) (G := G) (n := W) tx.nob F sc__law_town rfl rfl rfl hm hb hkb ?_
  intro cdv A outer s H E cx room tk ow
  have gok := fun y => GOk.kw (y := y) tx.gok
  exact (dss_cons (ds_ret (de_tup (da_cons (de_call cc (i := 15) (by rfl) (by rfl) cx room tk (by rfl) (da_cons (de_var (pv 0)) (da_cons de_str (da_cons
  (de_var (pv 1)) (da_cons (de_var (pv 2)) da_nil))))) (da_cons (de_call cc (i := 15) (by rfl) (by rfl) cx room tk (by rfl) (da_cons (de_var (pv 0)) (da_cons
  de_str (da_cons (de_var (pv 1)) (da_cons (de_var (pv 2)) da_nil))))) da_nil))))
  dss_nil)
theorem at__law_number (tx : Txt K mg w) (cc : Calls P w K mg base k nms kwt T C) : FnAt P w K mg base (k + 1) "_law_number" 1 (kwt 17) (fun ds S => if ds.length = 1 then trim S (endR (run W C G bd__law_number (startE 3 ds) S)) else .bad) := by
  obtain ⟨f, fdd, hm, ⟨_, F⟩, hb, hkb⟩ := tx.t__law_number.ex
  refine def_ok (fd := fd__law_number) (i := f__law_number) (T := T) (C := C) (G := G) (n := W) tx.nob F sc__law_number rfl rfl rfl hm hb hkb ?_
  intro cdv A outer s H E cx room tk ow
  have gok := fun y => GOk.kw (y := y) tx.gok
  exact (dss_cons (ds_if (dw_or (dt_cmp cx (de_var (pv 0)) de_str) (dw_or (dt_cmp cx (de_frzv (de_lc (own := [("_law_sign", 1)]) cx (di_itr (de_var (pv 0)))
  (blkOk_by (own := [("_law_sign", 1)]) (N := nm__law_number) (sc := defScope s__law_number) (by decide +kernel)) (fun _ _ _ _ _ => (dg_name (pg_name (i := 1)
  (cx.blk _ _ _ _ _).nd rfl (.inl rfl)))) (fun _ _ _ _ _ => (dts_one (dt_cmp (cx.blk _ _ _ _ _) (de_var (pv 1)) de_str))) (fun _ _ _ _ _ => (de_var (pv 1)))
  (by decide))) (de_frzv (de_lst da_nil))) (dw_one_or (dw_and (dt_cmp cx (de_ix cx (de_var (pv 0)) de_int) de_str) (dw_one_and (dt_cmp cx (de_biB cx m_len
  bi_len (by rfl) b_len (da_cons (de_var (pv 0)) da_nil)) de_int))).pt))).pt (dss_cons (ds_ret (de_neg de_int))
  dss_nil) dss_nil)
  (dss_cons (ds_asg de_int
  (dgu_bind (dg_name (pg_name (i := 2) cx.nd rfl (.inl rfl)))))
  (dss_cons (ds_for ow (cx.calm rfl) (di_itr (de_var (pv 0))) (dg_name (pg_name (i := 1) cx.nd
  rfl (.inl rfl))) (dss_cons (ds_asg (de_bin (de_bin (de_var (pv 2)) de_int) (de_sidx de_str (de_var (pv 1)))) (dgu_bind (dg_name (pg_name (i := 2) cx.nd rfl
  (.inl rfl)))))
  dss_nil))
  (dss_cons (ds_ret (de_var (pv 2)))
  dss_nil))))
theorem at__law_runs_of (tx : Txt K mg w) (cc : Calls P w K mg base k nms kwt T C) : FnAt P w K mg base (k + 1) "_law_runs_of" 2 (kwt 18) (fun ds S => if ds.length = 2 then trim S (endR (run W C G bd__law_runs_of (startE 5 ds) S)) else .bad) := by
  obtain ⟨f, fdd, hm, ⟨_, F⟩, hb, hkb⟩ := tx.t__law_runs_of.ex
  refine def_ok (fd := fd__law_runs_of) (i := f__law_runs_of) (T := T) (C := C) (G := G) (n := W) tx.nob F sc__law_runs_of rfl rfl rfl hm hb hkb ?_
  intro cdv A outer s H E cx room tk ow
  have gok := fun y => GOk.kw (y := y) tx.gok
  exact (dss_cons (ds_asg (de_lst da_nil) (dgu_bind (dg_name (pg_name (i := 2) cx.nd rfl (.inl rfl)))))
  (dss_cons (ds_fz (i := 2) (ds_for ow (cx.calm rfl)
  (di_itr (de_split (de_var (pv 0)) de_str)) (dg_name (pg_name (i := 3) cx.nd rfl (.inl rfl))) (dss_cons (ds_asg (de_call cc (i := 17) (by rfl) (by rfl) cx
  room tk (by rfl) (da_cons (de_frzv (de_sl (de_var (pv 3)) (dp_some de_int) dp_none)) da_nil)) (dgu_bind (dg_name (pg_name (i := 4) cx.nd rfl (.inl rfl)))))
  (dss_cons (ds_if (dw_or (dt_cmp cx (de_frzv (de_sl (de_var (pv 3)) dp_none (dp_some de_int))) (de_frzv (de_lst (da_cons (de_ix cx (de_var (pv 1)) de_int)
  (da_cons (de_ix cx (de_var (pv 1)) de_int) da_nil))))) (dw_or (dt_cmp cx (de_var (pv 4)) de_int) (dw_one_or (dw_and (dt_cmp cx (de_var (pv 2)) (de_frzv
  (de_lst da_nil))) (dw_one_and (dt_cmp cx (de_ix cx (de_ix cx (de_var (pv 2)) (de_neg de_int)) de_int) (de_ix cx (de_var (pv 3)) de_int)))).pt))).pt (dss_cons
  (ds_ret de_non)
  dss_nil) dss_nil)
  (dss_cons (ds_expr (de_mt mi_append (de_var (pv 2)) (da_cons (de_tup (da_cons (de_ix cx (de_var (pv 3)) de_int)
  (da_cons (de_var (pv 4)) da_nil))) da_nil)))
  dss_nil)))))
  (dss_cons (ds_ret (de_biT cx m_tuple bi_tuple (by rfl) b_tuple (da_cons (de_var (pv 2))
  da_nil)))
  dss_nil)))
theorem at__law_read (tx : Txt K mg w) (cc : Calls P w K mg base k nms kwt T C) : FnAt P w K mg base (k + 1) "_law_read" 2 (kwt 19) (fun ds S => if ds.length = 2 then trim S (endR (run W C G bd__law_read (startE 7 ds) S)) else .bad) := by
  obtain ⟨f, fdd, hm, ⟨_, F⟩, hb, hkb⟩ := tx.t__law_read.ex
  refine def_ok (fd := fd__law_read) (i := f__law_read) (T := T) (C := C) (G := G) (n := W) tx.nob F sc__law_read rfl rfl rfl hm hb hkb ?_
  intro cdv A outer s H E cx room tk ow
  have gok := fun y => GOk.kw (y := y) tx.gok
  exact (dss_cons (ds_if (dt_nt (dt_tru (de_biB cx m_isinstance bi_isinst (by rfl) b_isinstance (da_cons (de_var (pv 1)) (da_cons (de_ty cx m_str (by rfl)
  b_str) da_nil))))) (dss_cons (ds_ret de_non)
  dss_nil) dss_nil)
  (dss_cons (ds_if (dt_cmp cx (de_var (pv 0)) de_int) (dss_cons (ds_asg (de_split (de_var
  (pv 1)) de_str) (dgu_bind (dg_name (pg_name (i := 2) cx.nd rfl (.inl rfl)))))
  (dss_cons (ds_if (dt_cmp cx (de_biB cx m_len bi_len (by rfl) b_len (da_cons
  (de_var (pv 2)) da_nil)) de_int) (dss_cons (ds_ret de_non)
  dss_nil) dss_nil)
  (dss_cons (ds_fz (i := 3) (ds_asg (de_tup (da_cons (de_call cc (i := 18)
  (by rfl) (by rfl) cx room tk (by rfl) (da_cons (de_ix cx (de_var (pv 2)) de_int) (da_cons de_str da_nil))) (da_cons (de_call cc (i := 18) (by rfl) (by rfl)
  cx room tk (by rfl) (da_cons (de_ix cx (de_var (pv 2)) de_int) (da_cons de_str da_nil))) da_nil))) (dgu_bind (dg_name (pg_name (i := 3) cx.nd rfl (.inl
  rfl))))))
  (dss_cons (ds_ret (de_ife (dw_or (dt_cmp cx (de_ix cx (de_var (pv 3)) de_int) de_non) (dw_one_or (dt_cmp cx (de_ix cx (de_var (pv 3)) de_int)
  de_non))).pt de_non (de_var (pv 3))))
  dss_nil)))) dss_nil)
  (dss_cons (ds_asg (de_lst da_nil) (dgu_bind (dg_name (pg_name (i := 3) cx.nd rfl (.inl
  rfl)))))
  (dss_cons (ds_fz (i := 3) (ds_for ow (cx.calm rfl) (di_itr (de_split (de_var (pv 1)) de_str)) (dg_name (pg_name (i := 4) cx.nd rfl (.inl rfl)))
  (dss_cons (ds_fz (i := 5) (ds_setLc (i := 5) (own := [("_law_part", 6)]) cx rfl rfl (sw_true rfl rfl rfl (by decide +kernel)) (di_itr (de_split (de_var (pv
  4)) de_str)) (blkOk_by (own := [("_law_part", 6)]) (N := nm__law_read) (sc := defScope s__law_read) (by decide +kernel)) (fun _ _ _ _ _ => (dg_name (pg_name
  (i := 6) (cx.blk _ _ _ _ _).nd rfl (.inl rfl)))) (fun _ _ _ _ _ => dts_nil) (fun _ _ _ _ _ => (de_call cc (i := 17) (by rfl) (by rfl) (cx.blk _ _ _ _ _) room
  takes0 (by rfl) (da_cons (de_var (pv 6)) da_nil))) (by decide)))
  (dss_cons (ds_if (dw_or (dt_cmp cx (de_biB cx m_len bi_len (by rfl) b_len (da_cons (de_var
  (pv 5)) da_nil)) de_int) (dw_one_or (dt_cmp cx (de_biB cx m_min (bi_min (cx.calm rfl)) (by rfl) b_min (da_cons (de_var (pv 5)) da_nil)) de_int))).pt
  (dss_cons (ds_ret de_non)
  dss_nil) dss_nil)
  (dss_cons (ds_expr (de_mt mi_append (de_var (pv 3)) (da_cons (de_biT cx m_tuple bi_tuple (by rfl) b_tuple
  (da_cons (de_var (pv 5)) da_nil)) da_nil)))
  dss_nil)))))
  (dss_cons (ds_ret (de_frzv (de_var (pv 3))))
  dss_nil)))))
theorem at__law_is_number (tx : Txt K mg w) (cc : Calls P w K mg base k nms kwt T C) : FnAt P w K mg base (k + 1) "_law_is_number" 2 (kwt 20) (fun ds S => if ds.length = 2 then trim S (endR (run W C G bd__law_is_number (startE 2 ds) S)) else .bad) := by
  obtain ⟨f, fdd, hm, ⟨_, F⟩, hb, hkb⟩ := tx.t__law_is_number.ex
  refine def_ok (fd := fd__law_is_number) (i := f__law_is_number) (T := T) (C := C) (G := G) (n := W) tx.nob F sc__law_is_number rfl rfl rfl hm hb hkb ?_
  intro cdv A outer s H E cx room tk ow
  have gok := fun y => GOk.kw (y := y) tx.gok
  exact (dss_cons (ds_ret (de_and (de_biB cx m_isinstance bi_isinst (by rfl) b_isinstance (da_cons (de_var (pv 0)) (da_cons (de_ty cx m_int (by rfl) b_int)
  da_nil))) (de_and (de_nt (de_biB cx m_isinstance bi_isinst (by rfl) b_isinstance (da_cons (de_var (pv 0)) (da_cons (de_ty cx m_bool (by rfl) b_bool)
  da_nil)))) (pe_one (de_cmp cx (de_var (pv 0)) (de_var (pv 1)))))))
  dss_nil)
theorem at__law_written (tx : Txt K mg w) (cc : Calls P w K mg base k nms kwt T C) : FnAt P w K mg base (k + 1) "_law_written" 2 (kwt 21) (fun ds S => if ds.length = 2 then trim S (endR (run W C G bd__law_written (startE 12 ds) S)) else .bad) := by
  obtain ⟨f, fdd, hm, ⟨_, F⟩, hb, hkb⟩ := tx.t__law_written.ex
  refine def_ok (fd := fd__law_written) (i := f__law_written) (T := T) (C := C) (G := G) (n := W) tx.nob F sc__law_written rfl rfl rfl hm hb hkb ?_
  intro cdv A outer s H E cx room tk ow
  have gok := fun y => GOk.kw (y := y) tx.gok
  exact (dss_cons (ds_if (dt_cmp cx (de_var (pv 0)) de_int) (dss_cons (ds_if (dw_or (dt_nt (dt_tru (de_biB cx m_isinstance bi_isinst (by rfl) b_isinstance
  (da_cons (de_var (pv 1)) (da_cons (de_ty cx m_list (by rfl) b_list) da_nil))))) (dw_one_or (dt_cmp cx (de_var (pv 1)) (de_frzv (de_lst da_nil))))).pt
  (dss_cons (ds_ret de_non)
  dss_nil) dss_nil)
  (dss_cons (ds_for ow (cx.calm rfl) (di_itr (de_var (pv 1))) (dg_name (pg_name (i := 2) cx.nd rfl (.inl rfl)))
  (dss_cons (ds_if (dw_or (dt_nt (dt_tru (de_biB cx m_isinstance bi_isinst (by rfl) b_isinstance (da_cons (de_var (pv 2)) (da_cons (de_ty cx m_tuple (by rfl)
  b_tuple) da_nil))))) (dw_one_or (dt_cmp cx (de_biB cx m_len bi_len (by rfl) b_len (da_cons (de_var (pv 2)) da_nil)) de_int))).pt (dss_cons (ds_ret de_non)
  dss_nil) dss_nil)
  (dss_cons (ds_if (dw_or (dt_nt (dt_tru (de_call cc (i := 20) (by rfl) (by rfl) cx room tk (by rfl) (da_cons (de_ix cx (de_var (pv 2))
  de_int) (da_cons de_int da_nil))))) (dw_one_or (dt_nt (dt_tru (de_call cc (i := 20) (by rfl) (by rfl) cx room tk (by rfl) (da_cons (de_ix cx (de_var (pv 2))
  de_int) (da_cons de_int da_nil))))))).pt (dss_cons (ds_ret de_non)
  dss_nil) dss_nil)
  dss_nil)))
  (dss_cons (ds_ret (de_join de_str (de_frzv (de_lc (own
  := [("_law_x", 8), ("_law_y", 9)]) cx (di_itr (de_var (pv 1))) (blkOk_by (own := [("_law_x", 8), ("_law_y", 9)]) (N := nm__law_written) (sc := defScope
  s__law_written) (by decide +kernel)) (fun _ _ _ _ _ => (dg_tup ((cx.blk _ _ _ _ _).calm rfl) (dgs_cons (dg_name (pg_name (i := 8) (cx.blk _ _ _ _ _).nd rfl
  (.inl rfl))) (dgs_cons (dg_name (pg_name (i := 9) (cx.blk _ _ _ _ _).nd rfl (.inl rfl))) dgs_nil)))) (fun _ _ _ _ _ => dts_nil) (fun _ _ _ _ _ => (de_bin
  (de_bin (de_biT (cx.blk _ _ _ _ _) m_str bi_str (by rfl) b_str (da_cons (de_var (pv 8)) da_nil)) de_str) (de_biT (cx.blk _ _ _ _ _) m_str bi_str (by rfl)
  b_str (da_cons (de_var (pv 9)) da_nil)))) (by decide)))))
  dss_nil))) dss_nil)
  (dss_cons (ds_if (dw_or (dt_nt (dt_tru (de_biB cx m_isinstance bi_isinst
  (by rfl) b_isinstance (da_cons (de_var (pv 1)) (da_cons (de_ty cx m_tuple (by rfl) b_tuple) da_nil))))) (dw_one_or (dt_cmp cx (de_biB cx m_len bi_len
  (by rfl) b_len (da_cons (de_var (pv 1)) da_nil)) de_int))).pt (dss_cons (ds_ret de_non)
  dss_nil) dss_nil)
  (dss_cons (ds_for ow (cx.calm rfl) (di_enum cx
  (by rfl) (de_frzv (de_lst (da_cons de_str (da_cons de_str da_nil))))) (dg_tup (cx.calm rfl) (dgs_cons (dg_name (pg_name (i := 3) cx.nd rfl (.inl rfl)))
  (dgs_cons (dg_name (pg_name (i := 4) cx.nd rfl (.inl rfl))) dgs_nil))) (dss_cons (ds_if (dw_or (dt_nt (dt_tru (de_biB cx m_isinstance bi_isinst (by rfl)
  b_isinstance (da_cons (de_ix cx (de_var (pv 1)) (de_var (pv 3))) (da_cons (de_ty cx m_tuple (by rfl) b_tuple) da_nil))))) (dw_one_or (dt_cmp cx (de_biB cx
  m_len bi_len (by rfl) b_len (da_cons (de_ix cx (de_var (pv 1)) (de_var (pv 3))) da_nil)) de_int))).pt (dss_cons (ds_ret de_non)
  dss_nil) dss_nil)
  (dss_cons (ds_asg de_str (dgu_bind (dg_name (pg_name (i := 5) cx.nd rfl (.inl rfl)))))
  (dss_cons (ds_for ow (cx.calm rfl) (di_itr (de_ix cx (de_var (pv 1))
  (de_var (pv 3)))) (dg_name (pg_name (i := 6) cx.nd rfl (.inl rfl))) (dss_cons (ds_if (dw_or (dt_nt (dt_tru (de_biB cx m_isinstance bi_isinst (by rfl)
  b_isinstance (da_cons (de_var (pv 6)) (da_cons (de_ty cx m_tuple (by rfl) b_tuple) da_nil))))) (dw_or (dt_cmp cx (de_biB cx m_len bi_len (by rfl) b_len
  (da_cons (de_var (pv 6)) da_nil)) de_int) (dw_one_or (dt_nt (dt_tru (de_biB cx m_isinstance bi_isinst (by rfl) b_isinstance (da_cons (de_ix cx (de_var (pv
  6)) de_int) (da_cons (de_ty cx m_str (by rfl) b_str) da_nil)))))))).pt (dss_cons (ds_ret de_non)
  dss_nil) dss_nil)
  (dss_cons (ds_if (dw_or (dt_cmp cx
  (de_ix cx (de_var (pv 6)) de_int) (de_frzv (de_lst (da_cons (de_ix cx (de_var (pv 4)) de_int) (da_cons (de_ix cx (de_var (pv 4)) de_int) da_nil))))) (dw_or
  (dt_cmp cx (de_ix cx (de_var (pv 6)) de_int) (de_var (pv 5))) (dw_one_or (dt_nt (dt_tru (de_call cc (i := 20) (by rfl) (by rfl) cx room tk (by rfl) (da_cons
  (de_ix cx (de_var (pv 6)) de_int) (da_cons de_int da_nil)))))))).pt (dss_cons (ds_ret de_non)
  dss_nil) dss_nil)
  (dss_cons (ds_asg (de_ix cx (de_var (pv
  6)) de_int) (dgu_bind (dg_name (pg_name (i := 5) cx.nd rfl (.inl rfl)))))
  dss_nil))))
  dss_nil))))
  (dss_cons (ds_ret (de_join de_str (de_frzv (de_lc
  (own := [("_law_runs_here", 7)]) cx (di_itr (de_var (pv 1))) (blkOk_by (own := [("_law_runs_here", 7)]) (N := nm__law_written) (sc := defScope
  s__law_written) (by decide +kernel)) (fun _ _ _ _ _ => (dg_name (pg_name (i := 7) (cx.blk _ _ _ _ _).nd rfl (.inl rfl)))) (fun _ _ _ _ _ => dts_nil) (fun _ _
  _ _ _ => (de_join de_str (de_frzv (de_lc (own := [("_law_sign", 10), ("_law_many", 11)]) (cx.blk _ _ _ _ _) (di_itr (de_var (pv 7))) (blkOk_by (own :=
  [("_law_sign", 10), ("_law_many", 11)]) (by rfl)) (fun _ _ _ _ _ => (dg_tup (((cx.blk _ _ _ _ _).blk _ _ _ _ _).calm rfl) (dgs_cons (dg_name (pg_name (i :=
  10) ((cx.blk _ _ _ _ _).blk _ _ _ _ _).nd rfl (.inl rfl))) (dgs_cons (dg_name (pg_name (i := 11) ((cx.blk _ _ _ _ _).blk _ _ _ _ _).nd rfl (.inl rfl)))
  dgs_nil)))) (fun _ _ _ _ _ => dts_nil) (fun _ _ _ _ _ => (de_bin (de_var (pv 10)) (de_biT ((cx.blk _ _ _ _ _).blk _ _ _ _ _) m_str bi_str (by rfl) b_str
  (da_cons (de_var (pv 11)) da_nil)))) (by decide))))) (by decide)))))
  dss_nil))))
theorem at__law_told (tx : Txt K mg w) (cc : Calls P w K mg base k nms kwt T C) : FnAt P w K mg base (k + 1) "_law_told" 3 (kwt 22) (fun ds S => if ds.length = 3 then trim S (endR (run W C G bd__law_told (startE 4 ds) S)) else .bad) := by
  obtain ⟨f, fdd, hm, ⟨_, F⟩, hb, hkb⟩ := tx.t__law_told.ex
  refine def_ok (fd := fd__law_told) (i := f__law_told) (T := T) (C := C) (G := G) (n := W) tx.nob F sc__law_told rfl rfl rfl hm hb hkb ?_
  intro cdv A outer s H E cx room tk ow
  have gok := fun y => GOk.kw (y := y) tx.gok
  exact (dss_cons (ds_asg de_non (dgu_bind (dg_name (pg_name (i := 3) cx.nd rfl (.inl rfl)))))
  (dss_cons (ds_tryN rfl rfl (hD_only rfl rfl rfl (by rfl)
  (csx_cons (c := 0) (by rfl) tx.m_CityError_InvalidText (csx_cons (c := 1) (by rfl) tx.m_InvalidCity_InvalidText (csx_cons (c := 5) (by rfl)
  tx.m_InvalidDrive_InvalidText (csx_cons (c := 7) (by rfl) tx.m_InvalidText_InvalidText (csx_nil tx.x_InvalidText.ex.choose_spec.1))))) (fun a1 pn1 =>
  have cx := cx.suite a1 pn1; (dss_cons (ds_asg (de_ife (dt_cmp cx (de_var (pv 0)) de_int) de_non de_str) (dgu_bind (dg_name (pg_name (i := 3) cx.nd rfl (.inl
  rfl)))))
  dss_nil)) (hD_only rfl rfl rfl (by rfl) (csx_cons (c := 0) (by rfl) tx.m_CityError_InvalidCity (csx_cons (c := 1) (by rfl)
  tx.m_InvalidCity_InvalidCity (csx_cons (c := 5) (by rfl) tx.m_InvalidDrive_InvalidCity (csx_cons (c := 7) (by rfl) tx.m_InvalidText_InvalidCity (csx_nil
  tx.x_InvalidCity.ex.choose_spec.1))))) (fun a1 pn1 => have cx := cx.suite a1 pn1; (dss_cons (ds_asg (de_ife (dt_cmp cx (de_var (pv 0)) de_int) de_non de_str)
  (dgu_bind (dg_name (pg_name (i := 3) cx.nd rfl (.inl rfl)))))
  dss_nil)) (hD_only rfl rfl rfl (by rfl) (csx_cons (c := 0) (by rfl)
  tx.m_CityError_InvalidDrive (csx_cons (c := 1) (by rfl) tx.m_InvalidCity_InvalidDrive (csx_cons (c := 5) (by rfl) tx.m_InvalidDrive_InvalidDrive (csx_cons (c
  := 7) (by rfl) tx.m_InvalidText_InvalidDrive (csx_nil tx.x_InvalidDrive.ex.choose_spec.1))))) (fun a1 pn1 => have cx := cx.suite a1 pn1; (dss_cons (ds_asg
  (de_ife (dt_cmp cx (de_var (pv 0)) de_int) de_non de_str) (dgu_bind (dg_name (pg_name (i := 3) cx.nd rfl (.inl rfl)))))
  dss_nil)) (hD_nil rfl rfl tk))))
  (fun W1 pn1 xe1 tk ow => have cx := cx.tr pn1 xe1; (dss_cons (ds_if (dt_cmp cx (de_var (pv 0)) de_int) (dss_cons (ds_asg (de_ife (dt_tru (de_var (pv 2)))
  (de_callk0 (q := (0, ["text"], [0])) cc (i := 11) (j := 0) (by rfl) (by rfl) (by rfl) cx room tk (by rfl) (dk_cons (de_var (pv 1)) dk_nil)) (de_call cc (i :=
  11) (by rfl) (by rfl) cx room tk (by rfl) (da_cons (de_var (pv 1)) da_nil))) (dgu_bind (dg_name (pg_name (i := 3) cx.nd rfl (.inl rfl)))))
  dss_nil)
  (dss_cons (ds_if (dt_cmp cx (de_var (pv 0)) de_int) (dss_cons (ds_asg (de_ife (dt_tru (de_var (pv 2))) (de_callk0 (q := (0, ["text"], [0])) cc (i := 12) (j
  := 0) (by rfl) (by rfl) (by rfl) cx room tk (by rfl) (dk_cons (de_var (pv 1)) dk_nil)) (de_call cc (i := 12) (by rfl) (by rfl) cx room tk (by rfl) (da_cons
  (de_var (pv 1)) da_nil))) (dgu_bind (dg_name (pg_name (i := 3) cx.nd rfl (.inl rfl)))))
  dss_nil) (dss_cons (ds_if (dt_cmp cx (de_var (pv 0)) de_int)
  (dss_cons (ds_asg (de_ife (dt_tru (de_var (pv 2))) (de_callk0 (q := (0, ["city"], [0])) cc (i := 9) (j := 0) (by rfl) (by rfl) (by rfl) cx room tk (by rfl)
  (dk_cons (de_var (pv 1)) dk_nil)) (de_call cc (i := 9) (by rfl) (by rfl) cx room tk (by rfl) (da_cons (de_var (pv 1)) da_nil))) (dgu_bind (dg_name (pg_name
  (i := 3) cx.nd rfl (.inl rfl)))))
  dss_nil) (dss_cons (ds_asg (de_ife (dt_tru (de_var (pv 2))) (de_callk0 (q := (0, ["drive"], [0])) cc (i := 10) (j := 0)
  (by rfl) (by rfl) (by rfl) cx room tk (by rfl) (dk_cons (de_var (pv 1)) dk_nil)) (de_call cc (i := 10) (by rfl) (by rfl) cx room tk (by rfl) (da_cons (de_var
  (pv 1)) da_nil))) (dgu_bind (dg_name (pg_name (i := 3) cx.nd rfl (.inl rfl)))))
  dss_nil))
  dss_nil))
  dss_nil))
  dss_nil)) (fun _ _ => tryN3))
  (dss_cons (ds_ret (de_var (pv 3)))
  dss_nil)))
theorem at__law_right (tx : Txt K mg w) (cc : Calls P w K mg base k nms kwt T C) : FnAt P w K mg base (k + 1) "_law_right" 2 (kwt 23) (fun ds S => if ds.length = 2 then trim S (endR (run W C G bd__law_right (startE 6 ds) S)) else .bad) := by
  obtain ⟨f, fdd, hm, ⟨_, F⟩, hb, hkb⟩ := tx.t__law_right.ex
  refine def_ok (fd := fd__law_right) (i := f__law_right) (T := T) (C := C) (G := G) (n := W) tx.nob F sc__law_right rfl rfl rfl hm hb hkb ?_
  intro cdv A outer s H E cx room tk ow
  have gok := fun y => GOk.kw (y := y) tx.gok
  exact (dss_cons (ds_asg (de_biB cx m_repr (bi_repr cx) (by rfl) b_repr (da_cons (de_var (pv 0)) da_nil)) (dgu_bind (dg_name (pg_name (i := 2) cx.nd rfl (.inl
  rfl)))))
  (dss_cons (ds_asg (de_frzv (de_lst (da_cons (de_call cc (i := 19) (by rfl) (by rfl) cx room tk (by rfl) (da_cons de_int (da_cons (de_var (pv 0))
  da_nil))) (da_cons (de_call cc (i := 19) (by rfl) (by rfl) cx room tk (by rfl) (da_cons de_int (da_cons (de_var (pv 0)) da_nil))) (da_cons (de_call cc (i :=
  21) (by rfl) (by rfl) cx room tk (by rfl) (da_cons de_int (da_cons (de_var (pv 0)) da_nil))) (da_cons (de_call cc (i := 21) (by rfl) (by rfl) cx room tk
  (by rfl) (da_cons de_int (da_cons (de_var (pv 0)) da_nil))) da_nil)))))) (dgu_bind (dg_name (pg_name (i := 3) cx.nd rfl (.inl rfl)))))
  (dss_cons (ds_fz (i
  := 4) (ds_setLc (i := 4) (own := [("_law_door", 5)]) cx rfl rfl (sw_true rfl rfl rfl (by decide +kernel)) (di_rng1 cx (by rfl) de_int) (blkOk_by (own :=
  [("_law_door", 5)]) (N := nm__law_right) (sc := defScope s__law_right) (by decide +kernel)) (fun _ _ _ _ _ => (dg_name (pg_name (i := 5) (cx.blk _ _ _ _
  _).nd rfl (.inl rfl)))) (fun _ _ _ _ _ => dts_nil) (fun _ _ _ _ _ => (de_call cc (i := 22) (by rfl) (by rfl) (cx.blk _ _ _ _ _) room takes0 (by rfl) (da_cons
  (de_var (pv 5)) (da_cons (de_var (pv 0)) (da_cons (de_var (pv 1)) da_nil))))) (by decide)))
  (dss_cons (ds_ret (de_and (de_cmp cx (de_biB cx m_repr (bi_repr
  cx) (by rfl) b_repr (da_cons (de_var (pv 4)) da_nil)) (de_biB cx m_repr (bi_repr cx) (by rfl) b_repr (da_cons (de_var (pv 3)) da_nil))) (pe_one (de_cmp cx
  (de_biB cx m_repr (bi_repr cx) (by rfl) b_repr (da_cons (de_var (pv 0)) da_nil)) (de_var (pv 2))))))
  dss_nil))))
theorem at__law_bent_text (tx : Txt K mg w) (cc : Calls P w K mg base k nms kwt T C) : FnAt P w K mg base (k + 1) "_law_bent_text" 2 (kwt 24) (fun ds S => if ds.length = 2 then trim S (endR (run W C G bd__law_bent_text (startE 8 ds) S)) else .bad) := by
  obtain ⟨f, fdd, hm, ⟨_, F⟩, hb, hkb⟩ := tx.t__law_bent_text.ex
  refine def_ok (fd := fd__law_bent_text) (i := f__law_bent_text) (T := T) (C := C) (G := G) (n := W) tx.nob F sc__law_bent_text rfl rfl rfl hm hb hkb ?_
  intro cdv A outer s H E cx room tk ow
  have gok := fun y => GOk.kw (y := y) tx.gok
  exact (dss_cons (ds_asg (de_lst (da_cons de_str (da_cons de_str (da_cons de_str (da_cons de_str (da_cons de_str (da_cons de_str (da_cons de_str (da_cons
  de_str (da_cons de_str (da_cons de_str (da_cons de_str (da_cons de_str (da_cons de_str (da_cons de_str (da_cons de_str (da_cons de_str (da_cons de_str
  (da_cons de_str (da_cons de_str da_nil)))))))))))))))))))) (dgu_bind (dg_name (pg_name (i := 2) cx.nd rfl (.inl rfl)))))
  (dss_cons (ds_fz (i := 2) (ds_expr
  (de_mt mi_append (de_var (pv 2)) (da_cons de_str da_nil))))
  (dss_cons (ds_for ow (cx.calm rfl) (di_rng1 cx (by rfl) (de_bin de_int (de_call cc (i := 14)
  (by rfl) (by rfl) cx room tk (by rfl) (da_cons (de_var (pv 0)) (da_cons de_int da_nil))))) (dg_name (pg_name (i := 3) cx.nd rfl (.inl rfl))) (dss_cons
  (ds_asg (de_call cc (i := 14) (by rfl) (by rfl) cx room tk (by rfl) (da_cons (de_var (pv 0)) (da_cons (de_bin (de_biB cx m_len bi_len (by rfl) b_len (da_cons
  (de_var (pv 1)) da_nil)) de_int) da_nil))) (dgu_bind (dg_name (pg_name (i := 4) cx.nd rfl (.inl rfl)))))
  (dss_cons (ds_asg (de_biB cx m_min (bi_min
  (cx.calm rfl)) (by rfl) b_min (da_cons (de_biB cx m_len bi_len (by rfl) b_len (da_cons (de_var (pv 1)) da_nil)) (da_cons (de_bin (de_bin (de_var (pv 4))
  de_int) (de_call cc (i := 14) (by rfl) (by rfl) cx room tk (by rfl) (da_cons (de_var (pv 0)) (da_cons de_int da_nil)))) da_nil))) (dgu_bind (dg_name (pg_name
  (i := 5) cx.nd rfl (.inl rfl)))))
  (dss_cons (ds_asg (de_ix cx (de_var (pv 2)) (de_call cc (i := 14) (by rfl) (by rfl) cx room tk (by rfl) (da_cons (de_var
  (pv 0)) (da_cons de_int da_nil)))) (dgu_bind (dg_name (pg_name (i := 6) cx.nd rfl (.inl rfl)))))
  (dss_cons (ds_asg (de_lst (da_cons (de_frzv (de_bin
  (de_frzv (de_sl (de_var (pv 1)) dp_none (dp_some (de_var (pv 4))))) (de_frzv (de_sl (de_var (pv 1)) (dp_some (de_var (pv 5))) dp_none)))) (da_cons (de_frzv
  (de_bin (de_frzv (de_bin (de_frzv (de_sl (de_var (pv 1)) dp_none (dp_some (de_var (pv 4))))) (de_var (pv 6)))) (de_frzv (de_sl (de_var (pv 1)) (dp_some
  (de_var (pv 4))) dp_none)))) (da_cons (de_frzv (de_bin (de_frzv (de_bin (de_frzv (de_sl (de_var (pv 1)) dp_none (dp_some (de_var (pv 4))))) (de_var (pv 6))))
  (de_frzv (de_sl (de_var (pv 1)) (dp_some (de_var (pv 5))) dp_none)))) da_nil)))) (dgu_bind (dg_name (pg_name (i := 7) cx.nd rfl (.inl rfl)))))
  (dss_cons
  (ds_fz (i := 7) (ds_expr (de_mt mi_append (de_var (pv 7)) (da_cons (de_frzv (de_bin (de_frzv (de_sl (de_var (pv 1)) dp_none (dp_some (de_var (pv 5)))))
  (de_frzv (de_sl (de_var (pv 1)) (dp_some (de_var (pv 4))) dp_none)))) da_nil))))
  (dss_cons (ds_asg (de_ix cx (de_var (pv 7)) (de_call cc (i := 14) (by rfl)
  (by rfl) cx room tk (by rfl) (da_cons (de_var (pv 0)) (da_cons de_int da_nil)))) (dgu_bind (dg_name (pg_name (i := 1) cx.nd rfl (.inl rfl)))))
  dss_nil)))))))
  (dss_cons (ds_ret (de_var (pv 1)))
  dss_nil))))
theorem at__law_bent (tx : Txt K mg w) (cc : Calls P w K mg base k nms kwt T C) : FnAt P w K mg base (k + 1) "_law_bent" 2 (kwt 25) (fun ds S => if ds.length = 2 then trim S (endR (run W C G bd__law_bent (startE 6 ds) S)) else .bad) := by
  obtain ⟨f, fdd, hm, ⟨_, F⟩, hb, hkb⟩ := tx.t__law_bent.ex
  refine def_ok (fd := fd__law_bent) (i := f__law_bent) (T := T) (C := C) (G := G) (n := W) tx.nob F sc__law_bent rfl rfl rfl hm hb hkb ?_
  intro cdv A outer s H E cx room tk ow
  have gok := fun y => GOk.kw (y := y) tx.gok
  exact (dss_cons (ds_asg (de_frzv (de_lst (da_cons de_non (da_cons de_int (da_cons (de_neg de_int) (da_cons de_bl (da_cons de_str (da_cons de_str (da_cons
  de_str (da_cons (de_tup da_nil) (da_cons (de_frzv (de_lst da_nil)) (da_cons (de_frzv de_dnew) (da_cons (de_tup (da_cons de_str (da_cons de_int da_nil)))
  (da_cons (de_tup (da_cons de_str (da_cons de_int da_nil))) (da_cons (de_tup (da_cons de_int (da_cons de_int da_nil))) (da_cons (de_tup (da_cons de_int
  (da_cons (de_neg de_int) da_nil))) (da_cons (de_tup (da_cons de_int (da_cons de_bl da_nil))) (da_cons (de_tup (da_cons de_str (da_cons de_str da_nil)))
  da_nil)))))))))))))))))) (dgu_bind (dg_name (pg_name (i := 2) cx.nd rfl (.inl rfl)))))
  (dss_cons (ds_asg (de_frzv (de_bin (de_var (pv 2)) (de_frzv (de_lst
  (da_cons (de_frzv (de_lst (da_cons de_int (da_cons de_int da_nil)))) (da_cons (de_tup (da_cons de_int (da_cons de_int (da_cons de_int da_nil)))) (da_cons
  (de_tup (da_cons de_int da_nil)) (da_cons (de_tup (da_cons de_str (da_cons (de_bin de_int de_int) da_nil))) da_nil)))))))) (dgu_bind (dg_name (pg_name (i :=
  2) cx.nd rfl (.inl rfl)))))
  (dss_cons (ds_if (dw_or (dt_nt (dt_tru (de_biB cx m_isinstance bi_isinst (by rfl) b_isinstance (da_cons (de_var (pv 1))
  (da_cons (de_tup (da_cons (de_ty cx m_list (by rfl) b_list) (da_cons (de_ty cx m_tuple (by rfl) b_tuple) da_nil))) da_nil))))) (dw_or (dt_cmp cx (de_biB cx
  m_len bi_len (by rfl) b_len (da_cons (de_var (pv 1)) da_nil)) de_int) (dw_one_or (dt_cmp cx (de_call cc (i := 14) (by rfl) (by rfl) cx room tk (by rfl)
  (da_cons (de_var (pv 0)) (da_cons de_int da_nil))) de_int)))).pt (dss_cons (ds_ret (de_ix cx (de_var (pv 2)) (de_call cc (i := 14) (by rfl) (by rfl) cx room
  tk (by rfl) (da_cons (de_var (pv 0)) (da_cons de_int da_nil)))))
  dss_nil) dss_nil)
  (dss_cons (ds_par2 (i := 3) (j := 4) (cx.calm rfl) cx.nd rfl rfl
  (by decide) rfl rfl (da_cons (de_call cc (i := 14) (by rfl) (by rfl) cx room tk (by rfl) (da_cons (de_var (pv 0)) (da_cons (de_biB cx m_len bi_len (by rfl)
  b_len (da_cons (de_var (pv 1)) da_nil)) da_nil))) (da_cons (de_call cc (i := 14) (by rfl) (by rfl) cx room tk (by rfl) (da_cons (de_var (pv 0)) (da_cons
  de_int da_nil))) da_nil)) (by rfl))
  (dss_cons (ds_asg (de_biT cx m_list bi_list (by rfl) b_list (da_cons (de_var (pv 1)) da_nil)) (dgu_bind (dg_name
  (pg_name (i := 5) cx.nd rfl (.inl rfl)))))
  (dss_cons (ds_if (dt_cmp cx (de_var (pv 4)) de_int) (dss_cons (ds_ret (de_frzv (de_ife (dt_tru (de_biB cx
  m_isinstance bi_isinst (by rfl) b_isinstance (da_cons (de_var (pv 1)) (da_cons (de_ty cx m_list (by rfl) b_list) da_nil)))) (de_biT cx m_tuple bi_tuple
  (by rfl) b_tuple (da_cons (de_var (pv 5)) da_nil)) (de_var (pv 5)))))
  dss_nil) dss_nil)
  (dss_cons (ds_fz (i := 5) (ds_if (dt_cmp cx (de_var (pv 4))
  de_int) (dss_cons (ds_asg (de_call cc (i := 25) (by rfl) (by rfl) cx room tk (by rfl) (da_cons (de_var (pv 0)) (da_cons (de_ix cx (de_var (pv 5)) (de_var (pv
  3))) da_nil))) (dgu_ix cx (de_var (pv 5)) (de_var (pv 3))))
  dss_nil) (dss_cons (ds_if (dt_cmp cx (de_var (pv 4)) de_int) (dss_cons (ds_expr (de_mt mi_popAt
  (de_var (pv 5)) (da_cons (de_var (pv 3)) da_nil)))
  dss_nil) (dss_cons (ds_if (dt_cmp cx (de_var (pv 4)) de_int) (dss_cons (ds_expr (de_mt mi_insert (de_var
  (pv 5)) (da_cons (de_var (pv 3)) (da_cons (de_ix cx (de_var (pv 2)) (de_call cc (i := 14) (by rfl) (by rfl) cx room tk (by rfl) (da_cons (de_var (pv 0))
  (da_cons de_int da_nil)))) da_nil))))
  dss_nil) (dss_cons (ds_expr (de_mt mi_append (de_var (pv 5)) (da_cons (de_ix cx (de_var (pv 5)) (de_var (pv 3)))
  da_nil)))
  dss_nil))
  dss_nil))
  dss_nil)))
  (dss_cons (ds_ret (de_frzv (de_ife (dt_tru (de_biB cx m_isinstance bi_isinst (by rfl) b_isinstance (da_cons
  (de_var (pv 1)) (da_cons (de_ty cx m_tuple (by rfl) b_tuple) da_nil)))) (de_biT cx m_tuple bi_tuple (by rfl) b_tuple (da_cons (de_var (pv 5)) da_nil))
  (de_var (pv 5)))))
  dss_nil))))))))
theorem at__law_long_right (tx : Txt K mg w) (cc : Calls P w K mg base k nms kwt T C) : FnAt P w K mg base (k + 1) "_law_long_right" 1 (kwt 26) (fun ds S => if ds.length = 1 then trim S (endR (run W C G bd__law_long_right (startE 8 ds) S)) else .bad) := by
  obtain ⟨f, fdd, hm, ⟨_, F⟩, hb, hkb⟩ := tx.t__law_long_right.ex
  refine def_ok (fd := fd__law_long_right) (i := f__law_long_right) (T := T) (C := C) (G := G) (n := W) tx.nob F sc__law_long_right rfl rfl rfl hm hb hkb ?_
  intro cdv A outer s H E cx room tk ow
  have gok := fun y => GOk.kw (y := y) tx.gok
  exact (dss_cons (ds_asg (de_bin (de_join de_str (de_frzv (de_lc (own := [("_law_k", 7)]) cx (di_rng1 cx (by rfl) de_int) (blkOk_by (own := [("_law_k", 7)])
  (N := nm__law_long_right) (sc := defScope s__law_long_right) (by decide +kernel)) (fun _ _ _ _ _ => (dg_name (pg_name (i := 7) (cx.blk _ _ _ _ _).nd rfl
  (.inl rfl)))) (fun _ _ _ _ _ => dts_nil) (fun _ _ _ _ _ => (de_bin (de_ix (cx.blk _ _ _ _ _) de_str (de_bin (de_var (pv 7)) de_int)) (de_biT (cx.blk _ _ _ _
  _) m_str bi_str (by rfl) b_str (da_cons (de_bin (de_bin de_int (de_var (pv 7))) de_int) da_nil)))) (by decide)))) de_str) (dgu_bind (dg_name (pg_name (i :=
  1) cx.nd rfl (.inl rfl)))))
  (dss_cons (ds_asg (de_bin (de_var (pv 1)) (de_join de_str (de_frzv (de_lc (own := [("_law_k", 7)]) cx (di_rng1 cx (by rfl)
  de_int) (blkOk_by (own := [("_law_k", 7)]) (N := nm__law_long_right) (sc := defScope s__law_long_right) (by decide +kernel)) (fun _ _ _ _ _ => (dg_name
  (pg_name (i := 7) (cx.blk _ _ _ _ _).nd rfl (.inl rfl)))) (fun _ _ _ _ _ => dts_nil) (fun _ _ _ _ _ => (de_bin (de_ix (cx.blk _ _ _ _ _) de_str (de_bin
  (de_var (pv 7)) de_int)) (de_biT (cx.blk _ _ _ _ _) m_str bi_str (by rfl) b_str (da_cons (de_bin (de_var (pv 7)) de_int) da_nil)))) (by decide))))) (dgu_bind
  (dg_name (pg_name (i := 1) cx.nd rfl (.inl rfl)))))
  (dss_cons (ds_asg (de_join de_str (de_frzv (de_lc (own := [("_law_k", 7)]) cx (di_rng1 cx (by rfl)
  de_int) (blkOk_by (own := [("_law_k", 7)]) (N := nm__law_long_right) (sc := defScope s__law_long_right) (by decide +kernel)) (fun _ _ _ _ _ => (dg_name
  (pg_name (i := 7) (cx.blk _ _ _ _ _).nd rfl (.inl rfl)))) (fun _ _ _ _ _ => dts_nil) (fun _ _ _ _ _ => (de_bin (de_bin (de_biT (cx.blk _ _ _ _ _) m_str
  bi_str (by rfl) b_str (da_cons (de_var (pv 7)) da_nil)) de_str) (de_biT (cx.blk _ _ _ _ _) m_str bi_str (by rfl) b_str (da_cons (de_bin de_int (de_var (pv
  7))) da_nil)))) (by decide)))) (dgu_bind (dg_name (pg_name (i := 2) cx.nd rfl (.inl rfl)))))
  (dss_cons (ds_for ow (cx.calm rfl) (di_itr (de_frzv (de_lst
  (da_cons (de_var (pv 1)) (da_cons (de_var (pv 2)) da_nil))))) (dg_name (pg_name (i := 3) cx.nd rfl (.inl rfl))) (dss_cons (ds_asg (de_call cc (i := 14)
  (by rfl) (by rfl) cx room tk (by rfl) (da_cons (de_var (pv 0)) (da_cons (de_biB cx m_len bi_len (by rfl) b_len (da_cons (de_var (pv 3)) da_nil)) da_nil)))
  (dgu_bind (dg_name (pg_name (i := 4) cx.nd rfl (.inl rfl)))))
  (dss_cons (ds_asg (de_ix cx de_str (de_call cc (i := 14) (by rfl) (by rfl) cx room tk
  (by rfl) (da_cons (de_var (pv 0)) (da_cons de_int da_nil)))) (dgu_bind (dg_name (pg_name (i := 5) cx.nd rfl (.inl rfl)))))
  (dss_cons (ds_asg (de_frzv
  (de_bin (de_frzv (de_bin (de_frzv (de_sl (de_var (pv 3)) dp_none (dp_some (de_var (pv 4))))) (de_var (pv 5)))) (de_frzv (de_sl (de_var (pv 3)) (dp_some
  (de_bin (de_var (pv 4)) de_int)) dp_none)))) (dgu_bind (dg_name (pg_name (i := 6) cx.nd rfl (.inl rfl)))))
  (dss_cons (ds_if (dw_or (dt_nt (dt_tru (de_call
  cc (i := 23) (by rfl) (by rfl) cx room tk (by rfl) (da_cons (de_var (pv 3)) (da_cons de_bl da_nil))))) (dw_one_or (dt_nt (dt_tru (de_call cc (i := 23)
  (by rfl) (by rfl) cx room tk (by rfl) (da_cons (de_var (pv 6)) (da_cons de_bl da_nil))))))).pt (dss_cons (ds_ret de_bl)
  dss_nil) dss_nil)
  dss_nil)))))
  (dss_cons (ds_ret de_bl)
  dss_nil)))))
theorem at_law (tx : Txt K mg w) (cc : Calls P w K mg base k nms kwt T C) : FnAt P w K mg base (k + 1) "law" 1 (kwt 27) (fun ds S => if ds.length = 1 then trim S (endR (run W C G bd_law (startE 10 ds) S)) else .bad) := by
  obtain ⟨f, fdd, hm, ⟨_, F⟩, hb, hkb⟩ := tx.t_law.ex
  refine def_ok (fd := fd_law) (i := f_law) (T := T) (C := C) (G := G) (n := W) tx.nob F sc_law rfl rfl rfl hm hb hkb ?_
  intro cdv A outer s H E cx room tk ow
  have gok := fun y => GOk.kw (y := y) tx.gok
  exact (dss_cons (ds_asg (de_frzv (de_lst (da_cons de_str (da_cons de_str (da_cons de_str (da_cons de_str (da_cons de_str (da_cons de_str (da_cons de_str
  (da_cons de_str (da_cons de_str (da_cons de_str (da_cons de_str da_nil))))))))))))) (dgu_bind (dg_name (pg_name (i := 1) cx.nd rfl (.inl rfl)))))
  (dss_cons
  (ds_asg (de_frzv (de_bin (de_var (pv 1)) (de_frzv (de_lst (da_cons de_str (da_cons de_str (da_cons de_str (da_cons de_str (da_cons de_str (da_cons de_str
  (da_cons de_str da_nil))))))))))) (dgu_bind (dg_name (pg_name (i := 1) cx.nd rfl (.inl rfl)))))
  (dss_cons (ds_asg (de_frzv (de_bin (de_var (pv 1)) (de_frzv
  (de_lst (da_cons de_str (da_cons de_str (da_cons de_str (da_cons de_str (da_cons de_str (da_cons de_str (da_cons de_str (da_cons de_str (da_cons de_str
  (da_cons de_str (da_cons de_str (da_cons de_str da_nil)))))))))))))))) (dgu_bind (dg_name (pg_name (i := 1) cx.nd rfl (.inl rfl)))))
  (dss_cons (ds_asg
  (de_frzv (de_bin (de_var (pv 1)) (de_frzv (de_lst (da_cons de_str (da_cons de_str (da_cons de_non (da_cons de_int (da_cons (de_frzv (de_lst da_nil)) (da_cons
  (de_tup da_nil) (da_cons (de_frzv de_dnew) (da_cons de_bl (da_cons (de_frzv (de_lst (da_cons (de_tup (da_cons de_int (da_cons de_int da_nil))) da_nil)))
  (da_cons (de_frzv (de_lst (da_cons (de_tup (da_cons de_int (da_cons de_int da_nil))) (da_cons (de_tup (da_cons de_int (da_cons de_int da_nil))) da_nil))))
  (da_cons (de_tup (da_cons (de_tup (da_cons de_int (da_cons de_int da_nil))) da_nil)) da_nil))))))))))))))) (dgu_bind (dg_name (pg_name (i := 1) cx.nd rfl
  (.inl rfl)))))
  (dss_cons (ds_asg (de_frzv (de_bin (de_var (pv 1)) (de_frzv (de_lst (da_cons (de_frzv (de_lst (da_cons (de_tup (da_cons de_int (da_cons
  de_int (da_cons de_int da_nil)))) da_nil))) (da_cons (de_frzv (de_lst (da_cons de_str da_nil))) (da_cons (de_frzv (de_lst (da_cons (de_tup (da_cons (de_tup
  (da_cons de_str (da_cons de_int da_nil))) da_nil)) (da_cons (de_tup (da_cons (de_tup (da_cons de_str (da_cons de_int da_nil))) da_nil)) da_nil)))) (da_cons
  (de_tup (da_cons (de_frzv (de_lst (da_cons (de_tup (da_cons de_str (da_cons de_int da_nil))) da_nil))) (da_cons (de_tup (da_cons (de_tup (da_cons de_str
  (da_cons de_int da_nil))) da_nil)) da_nil))) (da_cons (de_tup (da_cons de_str (da_cons de_str da_nil))) da_nil))))))))) (dgu_bind (dg_name (pg_name (i := 1)
  cx.nd rfl (.inl rfl)))))
  (dss_cons (ds_asg (de_frzv (de_bin (de_var (pv 1)) (de_frzv (de_lst (da_cons (de_tup (da_cons (de_tup (da_cons (de_frzv (de_lst
  (da_cons de_str (da_cons de_int da_nil)))) da_nil)) (da_cons (de_tup (da_cons (de_tup (da_cons de_str (da_cons de_int da_nil))) da_nil)) da_nil))) (da_cons
  (de_tup (da_cons (de_tup (da_cons (de_tup (da_cons de_str (da_cons de_int da_nil))) da_nil)) (da_cons (de_frzv (de_lst (da_cons (de_tup (da_cons de_str
  (da_cons de_int da_nil))) da_nil))) da_nil))) (da_cons (de_tup (da_cons (de_tup (da_cons (de_tup (da_cons de_str (da_cons de_int da_nil))) da_nil)) (da_cons
  (de_tup (da_cons (de_frzv (de_lst (da_cons de_str (da_cons de_int da_nil)))) da_nil)) da_nil))) (da_cons (de_frzv (de_lst (da_cons (de_frzv (de_lst (da_cons
  de_int (da_cons de_int da_nil)))) da_nil))) da_nil)))))))) (dgu_bind (dg_name (pg_name (i := 1) cx.nd rfl (.inl rfl)))))
  (dss_cons (ds_asg (de_frzv (de_bin
  (de_var (pv 1)) (de_frzv (de_lst (da_cons (de_tup (da_cons (de_tup (da_cons (de_tup (da_cons de_str (da_cons de_int da_nil))) da_nil)) (da_cons (de_tup
  (da_cons (de_tup (da_cons de_str (da_cons de_int da_nil))) da_nil)) da_nil))) (da_cons (de_frzv (de_lst (da_cons (de_frzv (de_lst (da_cons (de_frzv (de_lst
  (da_cons de_str (da_cons de_int da_nil)))) da_nil))) (da_cons (de_frzv (de_lst (da_cons (de_frzv (de_lst (da_cons de_str (da_cons de_int da_nil)))) da_nil)))
  da_nil)))) (da_cons (de_tup (da_cons (de_frzv (de_lst (da_cons de_int (da_cons de_int da_nil)))) da_nil)) da_nil))))))) (dgu_bind (dg_name (pg_name (i := 1)
  cx.nd rfl (.inl rfl)))))
  (dss_cons (ds_for ow (cx.calm rfl) (di_rng1 cx (by rfl) (de_biB cx m_max (bi_max (cx.calm rfl)) (by rfl) b_max (da_cons de_int
  (da_cons (de_biB cx m_min (bi_min (cx.calm rfl)) (by rfl) b_min (da_cons de_int (da_cons (de_biB cx m_len bi_len (by rfl) b_len (da_cons (de_var (pv 0))
  da_nil)) da_nil))) da_nil)))) (dg_name (pg_name (i := 2) cx.nd rfl (.inr rfl))) (dss_cons (ds_asg (de_call cc (i := 13) (by rfl) (by rfl) cx room tk (by rfl)
  (da_cons (de_var (pv 0)) (da_cons (de_var (pv 2)) da_nil))) (dgu_bind (dg_name (pg_name (i := 3) cx.nd rfl (.inr rfl)))))
  (dss_cons (ds_for ow (cx.calm
  rfl) (di_rng1 cx (by rfl) de_int) (dg_name (pg_name (i := 4) cx.nd rfl (.inl rfl))) (dss_cons (ds_asg (de_call cc (i := 16) (by rfl) (by rfl) cx room tk
  (by rfl) (da_cons (de_var (pv 3)) (da_cons (de_ix cx (de_frzv (de_lst (da_cons de_int (da_cons de_int da_nil)))) (de_bin (de_call cc (i := 14) (by rfl)
  (by rfl) cx room tk (by rfl) (da_cons (de_var (pv 3)) (da_cons de_int da_nil))) de_int)) (da_cons (de_ix cx (de_frzv (de_lst (da_cons de_int (da_cons (de_bin
  de_int de_int) da_nil)))) (de_call cc (i := 14) (by rfl) (by rfl) cx room tk (by rfl) (da_cons (de_var (pv 3)) (da_cons de_int da_nil)))) da_nil))))
  (dgu_bind (dg_name (pg_name (i := 5) cx.nd rfl (.inl rfl)))))
  (dss_cons (ds_asg (de_bin de_int (de_call cc (i := 14) (by rfl) (by rfl) cx room tk (by rfl)
  (da_cons (de_var (pv 3)) (da_cons de_int da_nil)))) (dgu_bind (dg_name (pg_name (i := 6) cx.nd rfl (.inl rfl)))))
  (dss_cons (ds_fz (i := 7) (ds_setLc (i :=
  7) (own := [("_law_spot", 9)]) cx rfl rfl (sw_true rfl rfl rfl (by decide +kernel)) (di_rng1 cx (by rfl) (de_var (pv 6))) (blkOk_by (own := [("_law_spot",
  9)]) (N := nm_law) (sc := defScope s_law) (by decide +kernel)) (fun _ _ _ _ _ => (dg_name (pg_name (i := 9) (cx.blk _ _ _ _ _).nd rfl (.inl rfl)))) (fun _ _
  _ _ _ => dts_nil) (fun _ _ _ _ _ => (de_tup (da_cons (de_call cc (i := 14) (by rfl) (by rfl) (cx.blk _ _ _ _ _) room takes0 (by rfl) (da_cons (de_var (pv 3))
  (da_cons de_int da_nil))) (da_cons (de_call cc (i := 14) (by rfl) (by rfl) (cx.blk _ _ _ _ _) room takes0 (by rfl) (da_cons (de_var (pv 3)) (da_cons (de_bin
  de_int de_int) da_nil))) da_nil)))) (by decide)))
  (dss_cons (ds_for ow (cx.calm rfl) (di_itr (de_frzv (de_lst (da_cons (de_call cc (i := 21) (by rfl)
  (by rfl) cx room tk (by rfl) (da_cons de_int (da_cons (de_var (pv 5)) da_nil))) (da_cons (de_call cc (i := 21) (by rfl) (by rfl) cx room tk (by rfl) (da_cons
  de_int (da_cons (de_var (pv 7)) da_nil))) da_nil))))) (dg_name (pg_name (i := 8) cx.nd rfl (.inl rfl))) (dss_cons (ds_if (dt_nt (dt_tru (de_call cc (i := 23)
  (by rfl) (by rfl) cx room tk (by rfl) (da_cons (de_call cc (i := 24) (by rfl) (by rfl) cx room tk (by rfl) (da_cons (de_var (pv 3)) (da_cons (de_var (pv 8))
  da_nil))) (da_cons (de_cmp cx (de_bin (de_var (pv 4)) de_int) de_int) da_nil))))) (dss_cons (ds_ret de_bl)
  dss_nil) dss_nil)
  dss_nil))
  (dss_cons
  (ds_for ow (cx.calm rfl) (di_itr (de_frzv (de_lst (da_cons (de_var (pv 5)) (da_cons (de_var (pv 7)) da_nil))))) (dg_name (pg_name (i := 8) cx.nd rfl (.inl
  rfl))) (dss_cons (ds_if (dt_nt (dt_tru (de_call cc (i := 23) (by rfl) (by rfl) cx room tk (by rfl) (da_cons (de_call cc (i := 25) (by rfl) (by rfl) cx room
  tk (by rfl) (da_cons (de_var (pv 3)) (da_cons (de_var (pv 8)) da_nil))) (da_cons (de_cmp cx (de_bin (de_var (pv 4)) de_int) de_int) da_nil))))) (dss_cons
  (ds_ret de_bl)
  dss_nil) dss_nil)
  dss_nil))
  dss_nil))))))
  (dss_cons (ds_if (dw_or (dt_cmp cx (de_frzv (de_lc (own := [("_law_thing", 8)]) cx (di_itr
  (de_var (pv 1))) (blkOk_by (own := [("_law_thing", 8)]) (N := nm_law) (sc := defScope s_law) (by decide +kernel)) (fun _ _ _ _ _ => (dg_name (pg_name (i :=
  8) (cx.blk _ _ _ _ _).nd rfl (.inl rfl)))) (fun _ _ _ _ _ => (dts_one (dt_nt (dt_tru (de_call cc (i := 23) (by rfl) (by rfl) (cx.blk _ _ _ _ _) room takes0
  (by rfl) (da_cons (de_var (pv 8)) (da_cons (de_cmp (cx.blk _ _ _ _ _) (de_var (pv 2)) de_int) da_nil))))))) (fun _ _ _ _ _ => (de_var (pv 8))) (by decide)))
  (de_frzv (de_lst da_nil))) (dw_one_or (dt_nt (dt_tru (de_call cc (i := 26) (by rfl) (by rfl) cx room tk (by rfl) (da_cons (de_var (pv 3)) da_nil)))))).pt
  (dss_cons (ds_ret de_bl)
  dss_nil) dss_nil)
  dss_nil))))
  (dss_cons (ds_ret de_bl)
  dss_nil)))))))))
theorem calls_ok (tx : Txt K mg w) : ∀ k, Calls P w K mg base (k) nms kwt T (CF k)
  | 0 => ⟨fun i x fd hx hT => by
    match i, hx, hT with
    | 0, hx, hT => cases hx; cases hT; exact at_zero tx.t_is_integer (CF 0 0) (fun _ _ => rfl)
    | 1, hx, hT => cases hx; cases hT; exact at_zero tx.t_is_run (CF 0 1) (fun _ _ => rfl)
    | 2, hx, hT => cases hx; cases hT; exact at_zero tx.t_are_runs (CF 0 2) (fun _ _ => rfl)
    | 3, hx, hT => cases hx; cases hT; exact at_zero tx.t_is_city (CF 0 3) (fun _ _ => rfl)
    | 4, hx, hT => cases hx; cases hT; exact at_zero tx.t_read_number (CF 0 4) (fun _ _ => rfl)
    | 5, hx, hT => cases hx; cases hT; exact at_zero tx.t_read_run (CF 0 5) (fun _ _ => rfl)
    | 6, hx, hT => cases hx; cases hT; exact at_zero tx.t_read_point (CF 0 6) (fun _ _ => rfl)
    | 7, hx, hT => cases hx; cases hT; exact at_zero tx.t_is_path (CF 0 7) (fun _ _ => rfl)
    | 8, hx, hT => cases hx; cases hT; exact at_zero tx.t_format_runs (CF 0 8) (fun _ _ => rfl)
    | 9, hx, hT => cases hx; cases hT; exact at_zero tx.t_format_city (CF 0 9) (fun _ _ => rfl)
    | 10, hx, hT => cases hx; cases hT; exact at_zero tx.t_format_drive (CF 0 10) (fun _ _ => rfl)
    | 11, hx, hT => cases hx; cases hT; exact at_zero tx.t_parse_city (CF 0 11) (fun _ _ => rfl)
    | 12, hx, hT => cases hx; cases hT; exact at_zero tx.t_parse_drive (CF 0 12) (fun _ _ => rfl)
    | 13, hx, hT => cases hx; cases hT; exact at_zero tx.t__law_source (CF 0 13) (fun _ _ => rfl)
    | 14, hx, hT => cases hx; cases hT; exact at_zero tx.t__law_draw (CF 0 14) (fun _ _ => rfl)
    | 15, hx, hT => cases hx; cases hT; exact at_zero tx.t__law_runs (CF 0 15) (fun _ _ => rfl)
    | 16, hx, hT => cases hx; cases hT; exact at_zero tx.t__law_town (CF 0 16) (fun _ _ => rfl)
    | 17, hx, hT => cases hx; cases hT; exact at_zero tx.t__law_number (CF 0 17) (fun _ _ => rfl)
    | 18, hx, hT => cases hx; cases hT; exact at_zero tx.t__law_runs_of (CF 0 18) (fun _ _ => rfl)
    | 19, hx, hT => cases hx; cases hT; exact at_zero tx.t__law_read (CF 0 19) (fun _ _ => rfl)
    | 20, hx, hT => cases hx; cases hT; exact at_zero tx.t__law_is_number (CF 0 20) (fun _ _ => rfl)
    | 21, hx, hT => cases hx; cases hT; exact at_zero tx.t__law_written (CF 0 21) (fun _ _ => rfl)
    | 22, hx, hT => cases hx; cases hT; exact at_zero tx.t__law_told (CF 0 22) (fun _ _ => rfl)
    | 23, hx, hT => cases hx; cases hT; exact at_zero tx.t__law_right (CF 0 23) (fun _ _ => rfl)
    | 24, hx, hT => cases hx; cases hT; exact at_zero tx.t__law_bent_text (CF 0 24) (fun _ _ => rfl)
    | 25, hx, hT => cases hx; cases hT; exact at_zero tx.t__law_bent (CF 0 25) (fun _ _ => rfl)
    | 26, hx, hT => cases hx; cases hT; exact at_zero tx.t__law_long_right (CF 0 26) (fun _ _ => rfl)
    | 27, hx, hT => cases hx; cases hT; exact at_zero tx.t_law (CF 0 27) (fun _ _ => rfl)
    | n + 28, hx, hT => cases hx⟩
  | k + 1 => ⟨fun i x fd hx hT => by
    have cc := calls_ok tx k
    match i, hx, hT with
    | 0, hx, hT => cases hx; cases hT; exact at_is_integer tx cc
    | 1, hx, hT => cases hx; cases hT; exact at_is_run tx cc
    | 2, hx, hT => cases hx; cases hT; exact at_are_runs tx cc
    | 3, hx, hT => cases hx; cases hT; exact at_is_city tx cc
    | 4, hx, hT => cases hx; cases hT; exact at_read_number tx cc
    | 5, hx, hT => cases hx; cases hT; exact at_read_run tx cc
    | 6, hx, hT => cases hx; cases hT; exact at_read_point tx cc
    | 7, hx, hT => cases hx; cases hT; exact at_is_path tx cc
    | 8, hx, hT => cases hx; cases hT; exact at_format_runs tx cc
    | 9, hx, hT => cases hx; cases hT; exact at_format_city tx cc
    | 10, hx, hT => cases hx; cases hT; exact at_format_drive tx cc
    | 11, hx, hT => cases hx; cases hT; exact at_parse_city tx cc
    | 12, hx, hT => cases hx; cases hT; exact at_parse_drive tx cc
    | 13, hx, hT => cases hx; cases hT; exact at__law_source tx cc
    | 14, hx, hT => cases hx; cases hT; exact at__law_draw tx cc
    | 15, hx, hT => cases hx; cases hT; exact at__law_runs tx cc
    | 16, hx, hT => cases hx; cases hT; exact at__law_town tx cc
    | 17, hx, hT => cases hx; cases hT; exact at__law_number tx cc
    | 18, hx, hT => cases hx; cases hT; exact at__law_runs_of tx cc
    | 19, hx, hT => cases hx; cases hT; exact at__law_read tx cc
    | 20, hx, hT => cases hx; cases hT; exact at__law_is_number tx cc
    | 21, hx, hT => cases hx; cases hT; exact at__law_written tx cc
    | 22, hx, hT => cases hx; cases hT; exact at__law_told tx cc
    | 23, hx, hT => cases hx; cases hT; exact at__law_right tx cc
    | 24, hx, hT => cases hx; cases hT; exact at__law_bent_text tx cc
    | 25, hx, hT => cases hx; cases hT; exact at__law_bent tx cc
    | 26, hx, hT => cases hx; cases hT; exact at__law_long_right tx cc
    | 27, hx, hT => cases hx; cases hT; exact at_law tx cc
    | n + 28, hx, hT => cases hx⟩
end
theorem txt_of {w : World} {K : PySem.W.Frag} {mg : Str → Option Value} {h : Heap} (X : K.In h) (G0 : h.Ns mainGlobals mg) (c0 : SaysC fal fnl cns tbs w K) : Txt K mg w where
  nob := ⟨fun x hx => by
    exact nob_at X G0 c0.e 56 (fun i y e => by
      match i, e with
      | 0, e => cases e; rfl
      | 1, e => cases e; rfl
      | 2, e => cases e; rfl
      | 3, e => cases e; rfl
      | 4, e => cases e; rfl
      | 5, e => cases e; rfl
      | 6, e => cases e; rfl
      | 7, e => cases e; rfl
      | 8, e => cases e; rfl
      | 9, e => cases e; rfl
      | 10, e => cases e; rfl
      | 11, e => cases e; rfl
      | 12, e => cases e; rfl
      | 13, e => cases e; rfl
      | 14, e => cases e; rfl
      | 15, e => cases e; rfl
      | 16, e => cases e; rfl
      | 17, e => cases e; rfl
      | 18, e => cases e; rfl
      | 19, e => cases e; rfl
      | 20, e => cases e; rfl
      | n + 21, e => cases e) hx⟩
  gok := fun i x d hx hG => by
    match i, hx, hG with
    | 0, hx, hG => cases hx; cases hG; exact conK_ok X G0 (conS (c0.con 0 (by rfl)))
    | 1, hx, hG => cases hx; cases hG; exact conK_ok X G0 (conS (c0.con 1 (by rfl)))
    | 2, hx, hG => cases hx; cases hG; exact conK_ok X G0 (conS (c0.con 2 (by rfl)))
    | 3, hx, hG => cases hx; cases hG; exact conK_ok X G0 (conS (c0.con 3 (by rfl)))
    | 4, hx, hG => cases hx; cases hG; exact conK_ok X G0 (conS (c0.con 4 (by rfl)))
    | 5, hx, hG => cases hx; cases hG; exact conK_ok X G0 (conS (c0.con 5 (by rfl)))
    | 6, hx, hG => cases hx; cases hG; exact conK_ok X G0 (conS (c0.con 6 (by rfl)))
    | 7, hx, hG => cases hx; cases hG; exact conK_ok X G0 (conS (c0.con 7 (by rfl)))
    | n + 8, hx, hG => cases hx
  t_is_integer := fnTxt_of X G0 (c0.e.fact 0 (by rfl)) (c0.e.fact 1 (by rfl)) (c0.e.def_ 0 (d := d_is_integer) (by rfl))
    (fun _ _ _ _ _ _ us hl => match us, hl with | [_, _], _ => rfl)
    (fun _ _ _ _ _ _ q hq => nomatch hq)
  t_is_run := fnTxt_of X G0 (c0.e.fact 2 (by rfl)) (c0.e.fact 3 (by rfl)) (c0.e.def_ 1 (d := d_is_run) (by rfl))
    (fun _ _ _ _ _ _ us hl => match us, hl with | [_, _], _ => rfl)
    (fun _ _ _ _ _ _ q hq => nomatch hq)
  t_are_runs := fnTxt_of X G0 (c0.e.fact 4 (by rfl)) (c0.e.fact 5 (by rfl)) (c0.e.def_ 2 (d := d_are_runs) (by rfl))
    (fun _ _ _ _ _ _ us hl => match us, hl with | [_, _], _ => rfl)
    (fun _ _ _ _ _ _ q hq => nomatch hq)
  t_is_city := fnTxt_of X G0 (c0.e.fact 6 (by rfl)) (c0.e.fact 7 (by rfl)) (c0.e.def_ 3 (d := d_is_city) (by rfl))
    (fun _ _ _ _ _ _ us hl => match us, hl with | [_], _ => rfl)
    (fun _ _ _ _ _ _ q hq => nomatch hq)
  t_read_number := fnTxt_of X G0 (c0.e.fact 8 (by rfl)) (c0.e.fact 9 (by rfl)) (c0.e.def_ 4 (d := d_read_number) (by rfl))
    (fun _ _ _ _ _ _ us hl => match us, hl with | [_], _ => rfl)
    (fun _ _ _ _ _ _ q hq => nomatch hq)
  t_read_run := fnTxt_of X G0 (c0.e.fact 10 (by rfl)) (c0.e.fact 11 (by rfl)) (c0.e.def_ 5 (d := d_read_run) (by rfl))
    (fun _ _ _ _ _ _ us hl => match us, hl with | [_], _ => rfl)
    (fun _ _ _ _ _ _ q hq => nomatch hq)
  t_read_point := fnTxt_of X G0 (c0.e.fact 12 (by rfl)) (c0.e.fact 13 (by rfl)) (c0.e.def_ 6 (d := d_read_point) (by rfl))
    (fun _ _ _ _ _ _ us hl => match us, hl with | [_], _ => rfl)
    (fun _ _ _ _ _ _ q hq => nomatch hq)
  t_is_path := fnTxt_of X G0 (c0.e.fact 14 (by rfl)) (c0.e.fact 15 (by rfl)) (c0.e.def_ 7 (d := d_is_path) (by rfl))
    (fun _ _ _ _ _ _ us hl => match us, hl with | [_], _ => rfl)
    (fun _ _ _ _ _ _ q hq => nomatch hq)
  t_format_runs := fnTxt_of X G0 (c0.e.fact 16 (by rfl)) (c0.e.fact 17 (by rfl)) (c0.e.def_ 8 (d := d_format_runs) (by rfl))
    (fun _ _ _ _ _ _ us hl => match us, hl with | [_], _ => rfl)
    (fun _ _ _ _ _ _ q hq => nomatch hq)
  t_format_city := fnTxt_of X G0 (c0.e.fact 18 (by rfl)) (c0.e.fact 19 (by rfl)) (c0.e.def_ 9 (d := d_format_city) (by rfl))
    (fun _ _ _ _ _ _ us hl => match us, hl with | [_], _ => rfl)
    (fun _ _ _ _ _ _ q hq => by
      have hq : q ∈ [((0, ["city"], [0]) : Nat × List Str × List Nat)] := hq
      simp only [List.mem_cons, List.not_mem_nil, or_false] at hq
      rcases hq with rfl
      · intro s us ws zs h1 h2 h3
        match us, ws, h1, h2, h3 with
        | [], [_], _, _, h3 => cases h3; exact .of_eq rfl)
  t_format_drive := fnTxt_of X G0 (c0.e.fact 20 (by rfl)) (c0.e.fact 21 (by rfl)) (c0.e.def_ 10 (d := d_format_drive) (by rfl))
    (fun _ _ _ _ _ _ us hl => match us, hl with | [_], _ => rfl)
    (fun _ _ _ _ _ _ q hq => by
      have hq : q ∈ [((0, ["drive"], [0]) : Nat × List Str × List Nat)] := hq
      simp only [List.mem_cons, List.not_mem_nil, or_false] at hq
      rcases hq with rfl
      · intro s us ws zs h1 h2 h3
        match us, ws, h1, h2, h3 with
        | [], [_], _, _, h3 => cases h3; exact .of_eq rfl)
  t_parse_city := fnTxt_of X G0 (c0.e.fact 22 (by rfl)) (c0.e.fact 23 (by rfl)) (c0.e.def_ 11 (d := d_parse_city) (by rfl))
    (fun _ _ _ _ _ _ us hl => match us, hl with | [_], _ => rfl)
    (fun _ _ _ _ _ _ q hq => by
      have hq : q ∈ [((0, ["text"], [0]) : Nat × List Str × List Nat)] := hq
      simp only [List.mem_cons, List.not_mem_nil, or_false] at hq
      rcases hq with rfl
      · intro s us ws zs h1 h2 h3
        match us, ws, h1, h2, h3 with
        | [], [_], _, _, h3 => cases h3; exact .of_eq rfl)
  t_parse_drive := fnTxt_of X G0 (c0.e.fact 24 (by rfl)) (c0.e.fact 25 (by rfl)) (c0.e.def_ 12 (d := d_parse_drive) (by rfl))
    (fun _ _ _ _ _ _ us hl => match us, hl with | [_], _ => rfl)
    (fun _ _ _ _ _ _ q hq => by
      have hq : q ∈ [((0, ["text"], [0]) : Nat × List Str × List Nat)] := hq
      simp only [List.mem_cons, List.not_mem_nil, or_false] at hq
      rcases hq with rfl
      · intro s us ws zs h1 h2 h3
        match us, ws, h1, h2, h3 with
        | [], [_], _, _, h3 => cases h3; exact .of_eq rfl)
  t__law_source := fnTxt_of X G0 (c0.e.fact 26 (by rfl)) (c0.e.fact 27 (by rfl)) (c0.e.def_ 13 (d := d__law_source) (by rfl))
    (fun _ _ _ _ _ _ us hl => match us, hl with | [_, _], _ => rfl)
    (fun _ _ _ _ _ _ q hq => nomatch hq)
  t__law_draw := fnTxt_of X G0 (c0.e.fact 28 (by rfl)) (c0.e.fact 29 (by rfl)) (c0.e.def_ 14 (d := d__law_draw) (by rfl))
    (fun _ _ _ _ _ _ us hl => match us, hl with | [_, _], _ => rfl)
    (fun _ _ _ _ _ _ q hq => nomatch hq)
  t__law_runs := fnTxt_of X G0 (c0.e.fact 30 (by rfl)) (c0.e.fact 31 (by rfl)) (c0.e.def_ 15 (d := d__law_runs) (by rfl))
    (fun _ _ _ _ _ _ us hl => match us, hl with | [_, _, _, _], _ => rfl)
    (fun _ _ _ _ _ _ q hq => nomatch hq)
  t__law_town := fnTxt_of X G0 (c0.e.fact 32 (by rfl)) (c0.e.fact 33 (by rfl)) (c0.e.def_ 16 (d := d__law_town) (by rfl))
    (fun _ _ _ _ _ _ us hl => match us, hl with | [_, _, _], _ => rfl)
    (fun _ _ _ _ _ _ q hq => nomatch hq)
  t__law_number := fnTxt_of X G0 (c0.e.fact 34 (by rfl)) (c0.e.fact 35 (by rfl)) (c0.e.def_ 17 (d := d__law_number) (by rfl))
    (fun _ _ _ _ _ _ us hl => match us, hl with | [_], _ => rfl)
    (fun _ _ _ _ _ _ q hq => nomatch hq)
  t__law_runs_of := fnTxt_of X G0 (c0.e.fact 36 (by rfl)) (c0.e.fact 37 (by rfl)) (c0.e.def_ 18 (d := d__law_runs_of) (by rfl))
    (fun _ _ _ _ _ _ us hl => match us, hl with | [_, _], _ => rfl)
    (fun _ _ _ _ _ _ q hq => nomatch hq)
  t__law_read := fnTxt_of X G0 (c0.e.fact 38 (by rfl)) (c0.e.fact 39 (by rfl)) (c0.e.def_ 19 (d := d__law_read) (by rfl))
    (fun _ _ _ _ _ _ us hl => match us, hl with | [_, _], _ => rfl)
    (fun _ _ _ _ _ _ q hq => nomatch hq)
  t__law_is_number := fnTxt_of X G0 (c0.e.fact 40 (by rfl)) (c0.e.fact 41 (by rfl)) (c0.e.def_ 20 (d := d__law_is_number) (by rfl))
    (fun _ _ _ _ _ _ us hl => match us, hl with | [_, _], _ => rfl)
    (fun _ _ _ _ _ _ q hq => nomatch hq)
  t__law_written := fnTxt_of X G0 (c0.e.fact 42 (by rfl)) (c0.e.fact 43 (by rfl)) (c0.e.def_ 21 (d := d__law_written) (by rfl))
    (fun _ _ _ _ _ _ us hl => match us, hl with | [_, _], _ => rfl)
    (fun _ _ _ _ _ _ q hq => nomatch hq)
  t__law_told := fnTxt_of X G0 (c0.e.fact 44 (by rfl)) (c0.e.fact 45 (by rfl)) (c0.e.def_ 22 (d := d__law_told) (by rfl))
    (fun _ _ _ _ _ _ us hl => match us, hl with | [_, _, _], _ => rfl)
    (fun _ _ _ _ _ _ q hq => nomatch hq)
  t__law_right := fnTxt_of X G0 (c0.e.fact 46 (by rfl)) (c0.e.fact 47 (by rfl)) (c0.e.def_ 23 (d := d__law_right) (by rfl))
    (fun _ _ _ _ _ _ us hl => match us, hl with | [_, _], _ => rfl)
    (fun _ _ _ _ _ _ q hq => nomatch hq)
  t__law_bent_text := fnTxt_of X G0 (c0.e.fact 48 (by rfl)) (c0.e.fact 49 (by rfl)) (c0.e.def_ 24 (d := d__law_bent_text) (by rfl))
    (fun _ _ _ _ _ _ us hl => match us, hl with | [_, _], _ => rfl)
    (fun _ _ _ _ _ _ q hq => nomatch hq)
  t__law_bent := fnTxt_of X G0 (c0.e.fact 50 (by rfl)) (c0.e.fact 51 (by rfl)) (c0.e.def_ 25 (d := d__law_bent) (by rfl))
    (fun _ _ _ _ _ _ us hl => match us, hl with | [_, _], _ => rfl)
    (fun _ _ _ _ _ _ q hq => nomatch hq)
  t__law_long_right := fnTxt_of X G0 (c0.e.fact 52 (by rfl)) (c0.e.fact 53 (by rfl)) (c0.e.def_ 26 (d := d__law_long_right) (by rfl))
    (fun _ _ _ _ _ _ us hl => match us, hl with | [_], _ => rfl)
    (fun _ _ _ _ _ _ q hq => nomatch hq)
  t_law := fnTxt_of X G0 (c0.e.fact 54 (by rfl)) (c0.e.fact 55 (by rfl)) (c0.e.def_ 27 (d := d_law) (by rfl))
    (fun _ _ _ _ _ _ us hl => match us, hl with | [_], _ => rfl)
    (fun _ _ _ _ _ _ q hq => nomatch hq)
  x_CityError := exTxt_of X G0 (c0.e.fact 77 (by rfl)) (c0.e.fact 78 (by rfl))
  x_InvalidCity := exTxt_of X G0 (c0.e.fact 79 (by rfl)) (c0.e.fact 80 (by rfl))
  x_InvalidDrive := exTxt_of X G0 (c0.e.fact 81 (by rfl)) (c0.e.fact 82 (by rfl))
  x_InvalidText := exTxt_of X G0 (c0.e.fact 83 (by rfl)) (c0.e.fact 84 (by rfl))
  m_CityError_InvalidCity := exmTxt_of X G0 (c0.e.fact 77 (by rfl)) (c0.e.fact 79 (by rfl)) (c0.e.fact 85 (by rfl))
  m_CityError_InvalidDrive := exmTxt_of X G0 (c0.e.fact 77 (by rfl)) (c0.e.fact 81 (by rfl)) (c0.e.fact 86 (by rfl))
  m_CityError_InvalidText := exmTxt_of X G0 (c0.e.fact 77 (by rfl)) (c0.e.fact 83 (by rfl)) (c0.e.fact 87 (by rfl))
  m_InvalidCity_InvalidCity := exmTxt_of X G0 (c0.e.fact 79 (by rfl)) (c0.e.fact 79 (by rfl)) (c0.e.fact 88 (by rfl))
  m_InvalidCity_InvalidDrive := exmTxt_of X G0 (c0.e.fact 79 (by rfl)) (c0.e.fact 81 (by rfl)) (c0.e.fact 89 (by rfl))
  m_InvalidCity_InvalidText := exmTxt_of X G0 (c0.e.fact 79 (by rfl)) (c0.e.fact 83 (by rfl)) (c0.e.fact 90 (by rfl))
  m_InvalidDrive_InvalidCity := exmTxt_of X G0 (c0.e.fact 81 (by rfl)) (c0.e.fact 79 (by rfl)) (c0.e.fact 91 (by rfl))
  m_InvalidDrive_InvalidDrive := exmTxt_of X G0 (c0.e.fact 81 (by rfl)) (c0.e.fact 81 (by rfl)) (c0.e.fact 92 (by rfl))
  m_InvalidDrive_InvalidText := exmTxt_of X G0 (c0.e.fact 81 (by rfl)) (c0.e.fact 83 (by rfl)) (c0.e.fact 93 (by rfl))
  m_InvalidText_InvalidCity := exmTxt_of X G0 (c0.e.fact 83 (by rfl)) (c0.e.fact 79 (by rfl)) (c0.e.fact 94 (by rfl))
  m_InvalidText_InvalidDrive := exmTxt_of X G0 (c0.e.fact 83 (by rfl)) (c0.e.fact 81 (by rfl)) (c0.e.fact 95 (by rfl))
  m_InvalidText_InvalidText := exmTxt_of X G0 (c0.e.fact 83 (by rfl)) (c0.e.fact 83 (by rfl)) (c0.e.fact 96 (by rfl))
end CC
open PySem PySem.W PySem.Calls PyProof.Rows
theorem PySem.Challenge.cw_cornercity_k42_invalid_texts_holds : PySem.Challenge.rw_cornercity_k42_invalid_texts.Holds := by
  refine CC.head_done ?_
  refine CC.walk_e (l := PySem.Challenge.rw_cornercity_k42_invalid_texts) (n := 63) (k := 9) (x := "law") (kw := CC.kwt CC.f_law) (cs := CC.CF 9 CC.f_law) rfl (by decide) CC.head_defs CC.head_name ⟨rfl, by decide, by decide⟩ ?F CC.law_thm
  intro w mg h Y G
  obtain ⟨K, KX, c⟩ := Y
  exact ⟨K, KX, fun base Xb Gb => (CC.calls_ok (CC.txt_of KX G c) 9).fn CC.f_law "law" CC.fd_law rfl rfl⟩
