import PyProof.Rows.All
import Wide.All
import OpenK.AllK
import Wide.FinOn
import HandS.ForMost
import HandS.TupLe
import HandS.Wide
import HandS.TupMul
import HandS.TupAny
import HandS.Deep
import HandS.Flow
import HandS.Style
import KE.DataEq
import KE.KSortTup
import HandS.SortOrd
import HandS.SortRule
import HandS.SortInts
import HandS.Rev
import HandS.RevTup
import HandS.Conv
import HandS.TupLen
import KE.KDictPairs
import KE.KTupSum
import HandS.More
import PyProof.ReprLen
import KE.GoesEnum
import HandS.TryOnly
import KE.KDictCopyH
import KE.KIndexOf
import HandS.SetFor
import HandS.WideBits
import HandS.SortKw
import KE.DataMinMax
import ObjForm.LawKit
import HandS.TupSets
import HandS.Strs
import HandS.SetKeys
import KE.DataFind
import HandS.Text
import HandS.StrMore
import HandS.Replace
import HandS.Iter
import HandS.IsInst
import HandS.Small
import HandS.Words
import HandS.Exc
import HandS.EndBits
import KE.BitLaws
import HandS.Codes
import PySem.Challenge.RW_signpoly_k75_functions_written
set_option Elab.async false
set_option linter.all false
set_option maxRecDepth 100000
set_option maxHeartbeats 4000000
set_option autoImplicit true
namespace Sp
open PySem PySem.Spec PyProof.Rows L2
inductive D where
  | non | bl (b : Bool) | int (i : Int) | str (x : Str)
  | tup (xs : List D) | lst (xs : List D) | dct (kvs : List (Key × D)) | dctT (kvs : List (List Key × D))
  | ref (n : Nat)
  | ptup (xs : List D)
  | vtup (xs : List D)
inductive Cell where
  | seq (xs : List D) | map (kvs : List (Key × D)) | mapT (kvs : List (List Key × D)) | inst (c : Str) (fs : List (Str × D))
inductive Slot where
  | no | val (d : D) | own (d : D)
abbrev Loc := List Slot
abbrev Cells := List Cell
inductive BOp where | add | sub | mul | fdiv | mod | pow | shl | shr | band | bor | bxor | fdivN
inductive COp where | eq | ne | lt | le | gt | ge | isin | notin | isn | notn
inductive LM where | append | pop | popAt | extend | insert | remove
inductive Bi where
  | len | abs | sum | max | min | max2 | min2 | all | any | int | str | bool | repr | tuple | list | sorted | dictK | dictT
inductive SM where | join | split | index | find | strip | rstrip
def SM.nm : SM -> String
  | .join => "join" | .split => "split" | .index => "index" | .find => "find" | .strip => "strip" | .rstrip => "rstrip"
mutual
inductive Tg where
  | nm (i : Nat) | tp (ts : Tgs)
inductive Tgs where
  | nil | cons (t : Tg) (r : Tgs)
end
inductive Ty where
  | int | bool | str | tup | lst
def Ty.nm : Ty -> String
  | .int => "int" | .bool => "bool" | .str => "str" | .tup => "tuple" | .lst => "list"
mutual
inductive CE where
  | non | bl (b : Bool) | int (i : Int) | str (x : Str)
  | var (i : Nat) | peek (i : Nat) | glob (x : Str)
  | bin (o : BOp) (a b : CE) | neg (a : CE)
  | and (a b : CE) | or (a b : CE) | not (a : CE) | ife (t a b : CE)
  | cmp (o : COp) (a b : CE) | chain (o p : COp) (a b c : CE)
  | call (f : Str) (as : CEs)
  | bi (f : Bi) (as : CEs)
  | ix (o i : CE) | sl (o : CE) (lo hi : CO)
  | tup (es : CEs) | lst (es : CEs) | box (e : CE) | mth (o : CE) (m : LM) (as : CEs)
  | comp (own : List Nat) (g : Tg) (src : Src) (t : CO) (e : CE)
  | isi (t : Ty) (e : CE)
  | dnew (t : Bool) | dget (o k d : CE)
  | fld (o : CE) (c f : Str) | meth (o : CE) (c m q : Str) (as : CEs) | new (c q : Str) (as : CEs)
  | sset (e : CE)
  | rev (e : CE) | trv (e : CE) | trg (t : Bool) (lo : CO) (hi : CE) | sdef (o k e : CE)
  | ddis (ks : List Key) (es : CEs) | nen (e : CE) | te0 (e : CE) | lidx (o y : CE) | lend (f : Str) (o : CE) | oth (x : Str) (e : CE) | dget1 (o k : CE) | tidx (o y : CE) | ptp (e : CE) | pdis (es : CEs) | lcnt (o y : CE) | bits (o : CE) | maxd (o : CE) | vtp (e : CE)
  | sm (m : SM) (o y : CE) | six (o i : CE) | sin (n : Bool) (c s : CE) | dgetn (o k d : CE) | kix (x : Str) (e : CE) | kget (x : Str) (e d : CE) | kin (n : Bool) (x : Str) (e : CE) | kmem (n : Bool) (x : Str) (e : CE)
inductive CEs where
  | nil | cons (e : CE) (r : CEs)
inductive CO where
  | no | yes (e : CE)
inductive Src where
  | val (e : CE) | rng1 (a : CE) | rng2 (a b : CE) | enum (e : CE) | zip2 (a b : CE) | zip3 (a b c : CE) | chars (e : CE)
end
mutual
inductive CS where
  | set (g : Tg) (e : CE) | own (i : Nat) (e : CE) | par (i j : Nat) (a b : CE) | par3 (i j k : Nat) (a b c : CE) | paro (i j : Nat) (a b : CE) | parv (i j : Nat) (a b : CE) | parc (i j : Nat) (a b : CE)
  | fr (is : List Nat) (s : CS)
  | setix (o i e : CE) | aug (i : Nat) (o : BOp) (e : CE)
  | mth (o : CE) (m : LM) (as : CEs) | exp (e : CE) | pops (j : Nat) (o : CE)
  | ret (e : CE) | retn
  | ifs (t : CE) (a b : CSs) | whl (t : CE) (b : CSs) | for_ (g : Tg) (src : Src) (b : CSs)
  | pass | brk | cnt
  | setfld (o : CE) (c f : Str) (e : CE) | swp (o i o2 i2 a b : CE)
  | rse
inductive CSs where
  | nil | cons (s : CS) (r : CSs)
end
mutual
def D.py : D -> Option PyData
  | .non => some .none
  | .bl b => some (.bool b)
  | .int i => some (.int i)
  | .str x => some (.str x)
  | .tup xs => (D.pys xs).map .tuple
  | .ptup xs => (D.pys xs).map .tuple
  | .vtup xs => (D.pys xs).map .tuple
  | .lst xs => (D.pys xs).map .list
  | .dct _ => none
  | .dctT _ => none
  | .ref _ => none
def D.pys : List D -> Option (List PyData)
  | [] => some []
  | x :: r => match D.py x,D.pys r with
    | some a,some b => some (a :: b)
    | _,_ => none
end
mutual
def D.rm : D -> Nat
  | .non => 8
  | .bl _ => 8
  | .int i => if i.natAbs.log2 < 1920 then 2000 else 100000000
  | .str x => (reprText x).length
  | .tup xs => D.rms xs + 8
  | .ptup xs => D.rms xs + 8
  | .vtup xs => D.rms xs + 8
  | .lst xs => D.rms xs + 8
  | .dct _ => 100000000
  | .dctT _ => 100000000
  | .ref _ => 100000000
def D.rms : List D -> Nat
  | [] => 0
  | x :: r => D.rm x + 2 + D.rms r
end
mutual
def D.rbel (n : Nat) : D -> Bool
  | .ref m => decide (m < n)
  | .tup xs => D.rbels n xs
  | .ptup xs => D.rbels n xs
  | .vtup xs => D.rbels n xs
  | .lst xs => D.rbels n xs
  | .dct kvs => D.rbelk n kvs
  | .dctT kvs => D.rbelt n kvs
  | _ => true
def D.rbels (n : Nat) : List D -> Bool
  | [] => true
  | x :: r => D.rbel n x && D.rbels n r
def D.rbelk (n : Nat) : List (Key × D) -> Bool
  | [] => true
  | (_,x) :: r => D.rbel n x && D.rbelk n r
def D.rbelt (n : Nat) : List (List Key × D) -> Bool
  | [] => true
  | (_,x) :: r => D.rbel n x && D.rbelt n r
end
def Cell.rbel (n : Nat) : Cell -> Bool
  | .seq xs => D.rbels n xs
  | .map kvs => D.rbelk n kvs
  | .mapT kvs => D.rbelt n kvs
  | .inst _ fs => fs.all fun p => D.rbel n p.2
mutual
def D.dep : D -> Nat
  | .tup xs => D.deps xs + 1
  | .ptup xs => D.deps xs + 1
  | .vtup xs => D.deps xs + 1
  | .lst xs => D.deps xs + 1
  | _ => 0
def D.deps : List D -> Nat
  | [] => 0
  | x :: r => max (D.dep x) (D.deps r)
end
abbrev Vo (α : Type) := Option (Prop × α)
def ok {α : Type} (o : Vo α) (k : α -> Prop) : Prop :=
  match o with
  | some (c,z) => c /\ k z
  | none => False
def yes {α : Type} (z : α) : Vo α := some (True,z)
theorem aH {α : Type} {z : α} {k : α -> Prop} : ok (yes z) k = k z := by
  show (True /\ k z) = k z
  rw [true_and]
theorem aC {α : Type} {o : Vo α} {k k' : α -> Prop} (h : ∀ z,k z -> k' z) (x : ok o k) : ok o k' := by
  match o,x with
  | some (c,z),⟨a,b⟩ => exact ⟨a,h z b⟩
  | none,x => exact x
def Vo.map {α β : Type} (f : α -> β) : Vo α -> Vo β
  | some (c,z) => some (c,f z)
  | none => none
theorem jL {α β : Type} {f : α -> β} {o : Vo α} {k : β -> Prop} : ok (Vo.map f o) k = ok o fun z => k (f z) := by
  match o with
  | some (c,z) => rfl
  | none => rfl
def truV : D -> Vo Bool
  | .non => yes false
  | .bl b => yes b
  | .int i => yes (i != 0)
  | .str x => some (x.length <= sizeLine,(x.length : Int) != 0)
  | .tup xs => yes (!xs.isEmpty)
  | .ptup xs => yes (!xs.isEmpty)
  | .vtup xs => yes (!xs.isEmpty)
  | .lst xs => yes (!xs.isEmpty)
  | .dct _ => none
  | .dctT _ => none
  | .ref _ => none
abbrev tru (d : D) (k : Bool -> Prop) : Prop := ok (truV d) k
def mulOk (i j : Int) : Prop := i.natAbs.log2 + j.natAbs.log2 < 134000000
def divOk (j : Int) : Prop := 0 < j /\ j.natAbs.log2 < 9000
def binV : BOp -> D -> D -> Vo D
  | .add,.int i,.int j => yes (.int (i + j))
  | .add,.str x,.str y => some (x.length + y.length <= sizeLine,.str (x ++ y))
  | .add,.lst x,.lst y => some (x.length + y.length <= sizeLine,.lst (x ++ y))
  | .add,.tup x,.tup y => some (x.length + y.length <= sizeLine,.tup (x ++ y))
  | .add,.vtup x,.vtup y => some (x.length + y.length <= sizeLine,.vtup (x ++ y))
  | .mul,.str x,.int j => some ((0 <= j /\ j <= 16777216) /\ x.length * j.toNat <= 16777216,.str (PySem.Txt.mul x j))
  | .mul,.tup x,.int j => some ((-(2 ^ 63) <= j /\ j < 2 ^ 63) /\ x.length * j.toNat <= sizeLine,.tup (List.replicate j.toNat x).flatten)
  | .sub,.int i,.int j => yes (.int (i - j))
  | .mul,.int i,.int j => some (mulOk i j,.int (i * j))
  | .mul,.lst x,.int j => some ((-(2 ^ 63) <= j /\ j < 2 ^ 63) /\ x.length * j.toNat <= sizeLine,.lst (List.replicate j.toNat x).flatten)
  | .fdiv,.int i,.int j => some (divOk j,.int (i / j))
  | .fdivN,.int i,.int j => some (j ≠ 0 /\ j.natAbs.log2 < 9000,.int (i.fdiv j))
  | .mod,.int i,.int j => some (0 < j,.int (i % j))
  | .pow,.int i,.int j => some (0 <= j /\ j <= 1000000 /\ i.natAbs < 2 ^ 64,.int (i ^ j.toNat))
  | .shl,.int i,.int j => some (0 <= j /\ j <= 1000000 /\ i.natAbs < 2 ^ 2000,.int (i * 2 ^ j.toNat))
  | .shr,.int i,.int j => some (0 <= j,.int (i / 2 ^ j.toNat))
  | .band,.int i,.int j => yes (.int (Builtin.bitAnd i j))
  | .bor,.int i,.int j => yes (.int (Builtin.bitOr i j))
  | .bxor,.int i,.int j => yes (.int (Builtin.bitXor i j))
  | _,_,_ => none
abbrev binK (o : BOp) (d e : D) (k : D -> Prop) : Prop := ok (binV o d e) k
def eqV (d e : D) : Vo Bool :=
  match d.py,e.py with
  | some p,some q => some (min d.dep e.dep <= 60,PyData.eqv p q)
  | _,_ => none
def memV (d e : D) : Vo Bool :=
  match d.py,e with
  | some p,.lst xs => match D.pys xs with
    | some qs => some (min (D.deps xs) d.dep <= 60,qs.any fun q => PyData.eqv q p)
    | none => none
  | some p,.tup xs => match D.pys xs with
    | some qs => some (min (D.deps xs) d.dep <= 60,qs.any fun q => PyData.eqv q p)
    | none => none
  | _,_ => none
def keyK : D -> Option Key
  | .int i => some (.inl i)
  | .str x => some (.inr x)
  | _ => none
def keysK : List D -> Option (List Key)
  | [] => some []
  | d :: r => match keyK d,keysK r with
    | some a,some b => some (a :: b)
    | _,_ => none
def keyT : D -> Option (List Key)
  | .tup ds => keysK ds
  | _ => none
def kD : Key -> D
  | .inl i => .int i
  | .inr x => .str x
section
variable {κ : Type} [DecidableEq κ]
def dGet (kvs : List (κ × D)) (k : κ) : Option D := (kvs.find? fun kv => decide (kv.1 = k)).map (·.2)
def dPut (kvs : List (κ × D)) (k : κ) (v : D) : List (κ × D) :=
  if (kvs.any fun kv => decide (kv.1 = k)) = true then kvs.map (fun kv => if kv.1 = k then (kv.1,v) else kv) else kvs ++ [(k,v)]
def dAll (xs ps : List (κ × D)) : List (κ × D) := ps.foldl (fun a p => dPut a p.1 p.2) xs
end
def pairsK : List D -> Option (List (Key × D))
  | [] => some []
  | .tup [k,v] :: r => match keyK k,pairsK r with
    | some a,some b => some ((a,v) :: b)
    | _,_ => none
  | _ :: _ => none
def pairsT : List D -> Option (List (List Key × D))
  | [] => some []
  | .tup [k,v] :: r => match keyT k,pairsT r with
    | some a,some b => some ((a,v) :: b)
    | _,_ => none
  | _ :: _ => none
def dAt : D -> D -> Option (Option D)
  | .dct kvs,k => (keyK k).map (dGet kvs)
  | .dctT kvs,k => (keyT k).map (dGet kvs)
  | _,_ => none
def isDct : D -> Bool
  | .dct _ => true
  | .dctT _ => true
  | _ => false
def isNon : D -> Bool
  | .non => true
  | _ => false
def D.ints : List D -> Option (List Int)
  | [] => some []
  | .int i :: r => (D.ints r).map (i :: ·)
  | _ :: _ => none
def othV : D -> Option D
  | .non => some .non
  | .int i => if i = 1 then some (.int 0) else if i = 0 then some (.int 1) else none
  | _ => none
def get1V : D -> D -> Option D
  | .dct _,.non => some .non
  | d,k => (dAt d k).map fun o => o.getD .non
def get2V : D -> D -> D -> Option D
  | .dct _,.non,z => some z
  | d,k,z => (dAt d k).map fun o => o.getD z
def vtpV : D -> Vo D
  | .tup xs => yes (.vtup xs)
  | .ptup xs => yes (.vtup xs)
  | .vtup xs => yes (.vtup xs)
  | _ => none
def tidxV : D -> D -> Vo D
  | .ptup xs,.int k => match D.ints xs with
    | some ns => some (k ∈ ns,.int (ns.idxOf k : Nat))
    | none => none
  | .ptup xs,.tup ys => match D.pys xs,(D.tup ys).py with
    | some ps,some q => some (min (D.deps xs) (D.tup ys).dep <= 60 /\ true ∈ ps.map fun y => PyData.eqv y q,.int ((ps.map fun y => PyData.eqv y q).idxOf true : Nat))
    | _,_ => none
  | _,_ => none
def lcntV : D -> D -> Vo D
  | .lst xs,.int k => match D.ints xs with
    | some ns => some (True,.int (ns.count k : Nat))
    | none => none
  | _,_ => none
def bitsV : D -> Vo D
  | .int i => some (True,.int (Builtin.Int.intBits i : Nat))
  | _ => none
def maxdV : D -> Vo D
  | .lst xs => match D.ints xs with
    | some ns => some (True,.int (ns.max?.getD 0))
    | none => none
  | _ => none
def isTp : D -> Bool
  | .ptup _ => true
  | _ => false
def isLs : D -> Bool
  | .lst _ => true
  | _ => false
def inV (d e : D) : Vo Bool := match isDct e with
  | true => match dAt e d with
    | some o => some (True,o.isSome)
    | none => none
  | false => memV d e
def cmpV : COp -> D -> D -> Vo Bool
  | .eq,d,e => eqV d e
  | .ne,d,e => (eqV d e).map not
  | .lt,.int i,.int j => yes (decide (i < j))
  | .lt,.tup xs,.tup ys => match D.ints xs,D.ints ys with
    | some ns,some ms => yes (HT.lexLt ns ms)
    | _,_ => none
  | .le,.int i,.int j => yes (decide (i <= j))
  | .gt,.int i,.int j => yes (decide (j < i))
  | .gt,.tup xs,.tup ys => match D.ints xs,D.ints ys with
    | some ns,some ms => yes (HT.lexLt ms ns)
    | _,_ => none
  | .ge,.int i,.int j => yes (decide (j <= i))
  | .isin,d,e => inV d e
  | .notin,d,e => (inV d e).map not
  | .isn,d,.non => yes (isNon d)
  | .notn,d,.non => yes (!isNon d)
  | .isn,.bl a,.bl b => yes (decide (a = b))
  | .notn,.bl a,.bl b => yes (!decide (a = b))
  | _,_,_ => none
abbrev cmpK (o : COp) (d e : D) (k : Bool -> Prop) : Prop := ok (cmpV o d e) k
def D.bools : List D -> Option (List Bool)
  | [] => some []
  | .bl i :: r => (D.bools r).map (i :: ·)
  | _ :: _ => none
theorem mD {d e : D} (h : isDct e = false) : inV d e = memV d e := by
  unfold inV
  rw [h]
def opt {α : Type} : Option α -> Vo α
  | some z => yes z
  | none => none
def D.tints : D -> Option (List Int)
  | .tup xs => D.ints xs
  | _ => none
def D.tintss : List D -> Option (List (List Int))
  | [] => some []
  | x :: r => match D.tints x,D.tintss r with
    | some a,some b => some (a :: b)
    | _,_ => none
def isort (ns : List Int) : List Int := ns.mergeSort fun a b => decide (a <= b)
def tsort (nss : List (List Int)) : List (List Int) := nss.mergeSort fun a b => !HT.lexLt b a
def pltB (p q : List Int × Int) : Bool := if p.1 = q.1 then decide (p.2 < q.2) else HT.lexLt p.1 q.1
def D.prs : List D -> Option (List (List Int × Int))
  | [] => some []
  | .tup [.tup xs,.int k] :: r => match D.ints xs,D.prs r with
    | some a,some b => some ((a,k) :: b)
    | _,_ => none
  | _ :: _ => none
def psort (ps : List (List Int × Int)) : List (List Int × Int) := ps.mergeSort fun a b => !pltB b a
def prD (p : List Int × Int) : D := .tup [.tup (p.1.map .int),.int p.2]
def D.strs : List D -> Option (List Str)
  | [] => some []
  | .str i :: r => (D.strs r).map (i :: ·)
  | _ :: _ => none
def isSt : D -> Bool
  | .str _ => true
  | _ => false
def smV : SM -> D -> D -> Vo D
  | .join,.str a,.lst xs => match D.strs xs with
    | some ss => some ((ss.map (·.length)).sum + ss.length * a.length <= 16777216,.str (PySem.Txt.join a ss))
    | none => none
  | .split,.str a,.str b => some ((b.length == 0) = false /\ a.length + 2 <= sizeLine,.lst ((PySem.Txt.split a b).map .str))
  | .index,.str a,.str b => match Builtin.Str.occurrences a b 0 a.length 1 with
    | i :: _ => some (True,.int (i : Nat))
    | [] => none
  | .find,.str a,.str b => some (True,.int (PySem.Txt.find a b))
  | .strip,.str a,.str b => some (a.length <= sizeLine,.str (PySem.Txt.stripChars a b))
  | .rstrip,.str a,.str b => some (a.length <= sizeLine,.str (PySem.Txt.rstripChars a b))
  | _,_,_ => none
def sixV : D -> D -> Vo D
  | .str z,.int i => match L2.atI z.cps.toList i with
    | some c => some (z.length <= sizeLine,.str ⟨#[c]⟩)
    | none => none
  | _,_ => none
def sinV (n : Bool) : D -> D -> Vo Bool
  | .str x,.str z => match x.cps.toList with
    | [c] => some (True,n ^^ decide (c ∈ z.cps.toList))
    | _ => none
  | _,_ => none
def kixV : Option D -> D -> Vo D
  | some (.dct kvs),.str k => match dGet kvs (.inr k) with
    | some r => some (True,r)
    | none => none
  | _,_ => none
def kgetV : Option D -> D -> D -> Vo D
  | some (.dct kvs),.str k,z => some (True,(dGet kvs (.inr k)).getD z)
  | _,_,_ => none
def kinV (n : Bool) : Option D -> D -> Vo Bool
  | some (.dct kvs),.str k => some (True,n ^^ (dGet kvs (.inr k)).isSome)
  | _,_ => none
def kmemV (n : Bool) : Option D -> D -> Vo Bool
  | some (.tup xs),d => (memV d (.tup xs)).map (n ^^ ·)
  | _,_ => none
def ssort (ss : List Str) : List Str := ss.mergeSort fun a b => !ltCps b.cps.toList a.cps.toList
def sortV (xs : List D) : Vo D :=
  match D.ints xs with
  | some ns => yes (.lst ((isort ns).map .int))
  | none => match D.tintss xs with
    | some nss => yes (.lst ((tsort nss).map fun ns => .tup (ns.map .int)))
    | none => match D.strs xs with
      | some ss => some (ss.length < 64 /\ ∀ ys : List Str,ys.Perm ss -> sortedS ys = true -> ys = ssort ss,.lst ((ssort ss).map .str))
      | none => none
def dedup {α : Type} [DecidableEq α] : List α -> List α
  | [] => []
  | x :: r => if x ∈ r then dedup r else x :: dedup r
theorem eA {α : Type} [DecidableEq α] {x : α} : ∀ {l : List α},x ∈ dedup l ↔ x ∈ l
  | [] => Iff.rfl
  | y :: r => by
    unfold dedup
    by_cases h : y ∈ r
    · rw [if_pos h,eA,List.mem_cons]
      exact ⟨.inr,fun q => q.elim (fun z => z ▸ h) id⟩
    · rw [if_neg h,List.mem_cons,List.mem_cons,eA]
theorem g9 {α : Type} [DecidableEq α] : ∀ l : List α,(dedup l).Nodup
  | [] => List.nodup_nil
  | y :: r => by
    unfold dedup
    by_cases h : y ∈ r
    · rw [if_pos h]
      exact g9 r
    · rw [if_neg h]
      exact List.nodup_cons.mpr ⟨fun q => h (eA.mp q),g9 r⟩
def ssetV : D -> Vo D
  | .lst xs => match D.tintss xs with
    | some nss => some (nss.length < 65,.lst ((tsort (dedup nss)).map fun ns => .tup (ns.map .int)))
    | none => match D.ints xs with
      | some ns => some (ns.length < 63,.lst ((isort (dedup ns)).map .int))
      | none => none
  | _ => none
def flatD : D -> Bool
  | .int _ => true
  | .str _ => true
  | _ => false
def eqF : D -> D -> Bool
  | .int i,.int j => i == j
  | .str a,.str b => a == b
  | _,_ => false
def lstB : D -> Bool
  | .lst _ => true
  | _ => false
def idxV : D -> D -> Vo D
  | .lst xs,d => if flatD d && xs.all flatD then opt ((xs.findIdx? fun z => eqF z d).map fun j : Nat => .int (j : Int)) else none
  | _,_ => none
def revV : D -> Vo D
  | .lst xs => yes (.lst xs.reverse)
  | .tup xs => yes (.tup xs.reverse)
  | .vtup xs => yes (.vtup xs.reverse)
  | _ => none
def biV : Bi -> List D -> Vo D
  | .len,[.lst xs] => yes (.int xs.length)
  | .len,[.tup xs] => yes (.int xs.length)
  | .len,[.ptup xs] => yes (.int xs.length)
  | .len,[.vtup xs] => yes (.int xs.length)
  | .len,[.dct xs] => yes (.int xs.length)
  | .len,[.dctT xs] => yes (.int xs.length)
  | .len,[.str x] => some (x.length <= sizeLine,.int x.length)
  | .abs,[.int i] => yes (.int (if i < 0 then -i else i))
  | .sum,[.lst xs] => opt ((D.ints xs).map fun ns => .int ns.sum)
  | .sum,[.tup xs] => opt ((D.ints xs).map fun ns => .int ns.sum)
  | .max2,[.int i,.int j] => yes (.int (if j > i then j else i))
  | .min2,[.int i,.int j] => yes (.int (if j < i then j else i))
  | .all,[.lst xs] => opt ((D.bools xs).map fun ns => .bl (ns.all id))
  | .any,[.lst xs] => opt ((D.bools xs).map fun ns => .bl (ns.any id))
  | .int,[.int i] => yes (.int i)
  | .int,[.bl b] => yes (.int (if b then 1 else 0))
  | .int,[.str a] => match PySem.intText? a with
    | some n => some (a.length <= 640,.int n)
    | none => none
  | .bool,[.int i] => yes (.bl (i != 0))
  | .str,[.int i] => some (i.natAbs.log2 < 1920,.str (toString i))
  | .str,[.tup xs] => match (D.tup xs).py with
    | some p => some ((D.tup xs).rm <= 16777216 /\ (D.tup xs).dep <= 50,.str p.shown)
    | none => none
  | .repr,[d] => match d.py with
    | some p => some (d.rm <= 16777216 /\ d.dep <= 60,.str p.shown)
    | none => none
  | .sorted,[.lst xs] => sortV xs
  | .sorted,[.tup xs] => match D.prs xs with
    | some ps => yes (.lst ((psort ps).map prD))
    | none => none
  | .sorted,[.dctT kvs] => match D.tintss (kvs.map fun kv => .tup (kv.1.map kD)) with
    | some nss => yes (.lst ((tsort nss).map fun ns => .tup (ns.map .int)))
    | none => none
  | .sorted,[.dct kvs] => match D.ints (kvs.map fun kv => kD kv.1) with
    | some ns => some (ns.length < 64,.lst ((isort ns).map .int))
    | none => none
  | .dictK,[.lst xs] => opt ((pairsK xs).map fun ps => .dct (dAll [] ps))
  | .dictT,[.lst xs] => opt ((pairsT xs).map fun ps => .dctT (dAll [] ps))
  | .dictT,[.ptup xs] => opt ((pairsT xs).map fun ps => .dctT (dAll [] ps))
  | .max,[.lst xs] => match D.ints xs with
    | some ns => opt (ns.max?.map .int)
    | none => none
  | .min,[.lst xs] => match D.ints xs with
    | some ns => opt (ns.min?.map .int)
    | none => none
  | .max,[.tup xs] => match D.ints xs with
    | some ns => opt (ns.max?.map .int)
    | none => none
  | .min,[.tup xs] => match D.ints xs with
    | some ns => opt (ns.min?.map .int)
    | none => none
  | .tuple,[.lst xs] => yes (.tup xs)
  | .tuple,[.tup xs] => yes (.tup xs)
  | .list,[.lst xs] => yes (.lst xs)
  | .list,[.tup xs] => yes (.lst xs)
  | _,_ => none
abbrev biK (f : Bi) (ds : List D) (k : D -> Prop) : Prop := ok (biV f ds) k
def ixV : D -> D -> Vo D
  | .lst xs,.int i => opt (L2.atI xs i)
  | .tup xs,.int i => opt (L2.atI xs i)
  | .ptup xs,.int i => opt (L2.atI xs i)
  | .vtup xs,.int i => opt (L2.atI xs i)
  | .dct kvs,k => match keyK k with
    | some k => opt (dGet kvs k)
    | none => none
  | .dctT kvs,k => match keyT k with
    | some k => opt (dGet kvs k)
    | none => none
  | _,_ => none
abbrev ixK (d e : D) (k : D -> Prop) : Prop := ok (ixV d e) k
def cutD (xs : List D) (lo hi : Option Int) : List D := (xs.drop (HT.sIx xs.length 0 lo)).take (HT.sIx xs.length xs.length hi - HT.sIx xs.length 0 lo)
def slV : D -> Option Int -> Option Int -> Vo D
  | .lst xs,lo,hi => yes (.lst (cutD xs lo hi))
  | .tup xs,lo,hi => yes (.tup (cutD xs lo hi))
  | .ptup xs,lo,hi => yes (.vtup (cutD xs lo hi))
  | .vtup xs,lo,hi => yes (.vtup (cutD xs lo hi))
  | .str z,lo,hi => some (z.length <= sizeLine,.str (cutS z lo hi))
  | _,_,_ => none
abbrev slK (d : D) (lo hi : Option Int) (k : D -> Prop) : Prop := ok (slV d lo hi) k
def lmV : LM -> List D -> List D -> Vo (List D × D)
  | .append,xs,[d] => some (xs.length < sizeLine,xs ++ [d],.non)
  | .pop,xs,[] => match xs[xs.length - 1]? with
    | some y => yes (xs.dropLast,y)
    | none => none
  | .popAt,xs,[.int i] => match seqIndex? i xs.length with
    | some j => match xs[j]? with
      | some y => some (-(2 ^ 63) <= i /\ i < 2 ^ 63,xs.eraseIdx j,y)
      | none => none
    | none => none
  | .extend,xs,[.lst ys] => some (xs.length + ys.length <= sizeLine,xs ++ ys,.non)
  | .remove,xs,[d] => match D.pys xs,d.py with
    | some ps,some q => match ps.findIdx? fun y => PyData.eqv y q with
      | some j => some (min (D.deps xs) d.dep <= 60 /\ xs.length <= sizeLine,xs.eraseIdx j,.non)
      | none => none
    | _,_ => none
  | .insert,xs,[.int i,d] => some (xs.length < sizeLine /\ 0 <= i /\ i < 2 ^ 63,xs.take i.toNat ++ d :: xs.drop i.toNat,.non)
  | _,_,_ => none
abbrev SE := Loc -> Cells -> (D -> Cells -> Prop) -> Prop
abbrev SF := Str -> List D -> Cells -> (D -> Cells -> Prop) -> Prop
inductive Opd where
  | v (d : D) | o (i : Nat) (d : D)
def deref (cs : Cells) (d : D) : D :=
  match d with
  | .ref n => match cs[n]? with
    | some (.seq xs) => .lst xs
    | some (.map kvs) => .dct kvs
    | some (.mapT kvs) => .dctT kvs
    | _ => d
  | _ => d
def view (cs : Cells) : Opd -> D
  | .o _ d => d
  | .v d => deref cs d
def CE.peeks : CE -> Option Nat
  | .peek i => some i
  | _ => none
def opd (c : CE) (f : SE) : Loc -> Cells -> (Opd -> Cells -> Prop) -> Prop := fun L cs Q =>
  match c.peeks with
  | some i => match L[i]? with
    | some (.own d) => Q (.o i d) cs
    | some (.val d) => Q (.v d) cs
    | _ => False
  | none => f L cs fun d cs' => Q (.v d) cs'
def wipeL : List Nat -> Loc -> Loc
  | [],L => L
  | i :: r,L => (wipeL r L).set i .no
mutual
def asg : Tg -> D -> Loc -> (Loc -> Prop) -> Prop
  | .nm i,d,L,Q => Q (L.set i (.val d))
  | .tp ts,.tup ds,L,Q => asgs ts ds L Q
  | .tp ts,.lst ds,L,Q => asgs ts ds L Q
  | .tp _,_,_,_ => False
def asgs : Tgs -> List D -> Loc -> (Loc -> Prop) -> Prop
  | .nil,[],L,Q => Q L
  | .cons t r,d :: ds,L,Q => asg t d L fun L1 => asgs r ds L1 Q
  | _,_,_,_ => False
end
def stays (o : Opd) (cs : Cells) (L' : Loc) (cs' : Cells) : Prop :=
  match o with
  | .o _ _ => True
  | .v (.ref n) => cs'[n]? = cs[n]?
  | .v _ => True
def itemsV : D -> Vo (List D)
  | .lst xs => yes xs
  | .tup xs => yes xs
  | .ptup xs => yes xs
  | .vtup xs => yes xs
  | _ => none
abbrev itemsK (d : D) (k : List D -> Prop) : Prop := ok (itemsV d) k
def rangeD (lo : Int) (n : Nat) : List D := (List.range n).map fun i => .int (lo + (i : Nat))
def enumD : Nat -> List D -> List D
  | _,[] => []
  | n,x :: r => .tup [.int (n : Nat),x] :: enumD (n + 1) r
def zipD : List D -> List D -> List D
  | x :: xs,y :: ys => .tup [x,y] :: zipD xs ys
  | _,_ => []
def zipD3 : List D -> List D -> List D -> List D
  | x :: xs,y :: ys,z :: zs => .tup [x,y,z] :: zipD3 xs ys zs
  | _,_,_ => []
abbrev SI := Loc -> Cells -> (List D -> (Loc -> Cells -> Prop) -> Cells -> Prop) -> Prop
def smallI (j : Int) : Prop := -(2 ^ 62) <= j /\ j < 2 ^ 62
def noOwn (L : Loc) : List Nat -> Bool
  | [] => true
  | i :: r => (match L[i]? with
    | some (.own _) => false
    | none => false
    | _ => true) && noOwn L r
def compW (own : List Nat) (g : Tg) (t : Option SE) (e : SE) (st : Loc -> Cells -> Prop) : List D -> Loc -> Cells -> (List D -> Cells -> Prop) -> Prop
  | [],_,cs,Q => Q [] cs
  | x :: xs,L,cs,Q => asg g x (wipeL own L) fun L1 =>
    match t with
    | none => e L1 cs fun y cs2 => st L cs2 /\ compW own g t e st xs L cs2 fun ys cs3 => Q (y :: ys) cs3
    | some f => f L1 cs fun d cs1 => tru (deref cs1 d) fun b => match b with
      | true => e L1 cs1 fun y cs2 => st L cs2 /\ compW own g t e st xs L cs2 fun ys cs3 => Q (y :: ys) cs3
      | false => st L cs1 /\ compW own g t e st xs L cs1 Q
def isiV : Ty -> D -> Option Bool
  | t,.non => some false
  | t,.bl _ => some (match t with
    | .int | .bool => true
    | _ => false)
  | t,.int _ => some (match t with
    | .int => true
    | _ => false)
  | t,.str _ => some (match t with
    | .str => true
    | _ => false)
  | t,.ptup _ => some (match t with
    | .tup => true
    | _ => false)
  | t,.vtup _ => some (match t with
    | .tup => true
    | _ => false)
  | t,.tup _ => some (match t with
    | .tup => true
    | _ => false)
  | t,.lst _ => some (match t with
    | .lst => true
    | _ => false)
  | _,.dct _ => some false
  | _,_ => none
mutual
def wpE (G : SF) (con : Str -> Option D) : CE -> SE
  | .non => fun _ cs Q => Q .non cs
  | .bl b => fun _ cs Q => Q (.bl b) cs
  | .int i => fun _ cs Q => Q (.int i) cs
  | .str x => fun _ cs Q => Q (.str x) cs
  | .var i => fun L cs Q => match L[i]? with
    | some (.val d) => Q d cs
    | _ => False
  | .peek i => fun L cs Q => match L[i]? with
    | some (.val d) => Q d cs
    | _ => False
  | .glob x => fun _ cs Q => match con x with
    | some d => Q d cs
    | none => False
  | .bin o a b => fun L cs Q => opd a (wpE G con a) L cs fun u cs1 => opd b (wpE G con b) L cs1 fun v cs2 => binK o (view cs2 u) (view cs2 v) fun d => Q d cs2
  | .neg a => fun L cs Q => wpE G con a L cs fun d cs1 => match d with
    | .int i => Q (.int (-i)) cs1
    | _ => False
  | .and a b => fun L cs Q => wpE G con a L cs fun d cs1 => tru (deref cs1 d) fun t => match t with
    | true => wpE G con b L cs1 Q
    | false => Q d cs1
  | .or a b => fun L cs Q => wpE G con a L cs fun d cs1 => tru (deref cs1 d) fun t => match t with
    | true => Q d cs1
    | false => wpE G con b L cs1 Q
  | .not a => fun L cs Q => opd a (wpE G con a) L cs fun u cs1 => tru (view cs1 u) fun t => Q (.bl (!t)) cs1
  | .ife t a b => fun L cs Q => opd t (wpE G con t) L cs fun u cs1 => tru (view cs1 u) fun c => match c with
    | true => wpE G con a L cs1 Q
    | false => wpE G con b L cs1 Q
  | .cmp o a b => fun L cs Q => opd a (wpE G con a) L cs fun u cs1 => opd b (wpE G con b) L cs1 fun v cs2 => cmpK o (view cs2 u) (view cs2 v) fun t => Q (.bl t) cs2
  | .chain o p a b c => fun L cs Q => wpE G con a L cs fun x cs1 => wpE G con b L cs1 fun y cs2 => cmpK o x y fun t => match t with
    | true => wpE G con c L cs2 fun z cs3 => cmpK p y z fun t2 => Q (.bl t2) cs3
    | false => Q (.bl false) cs2
  | .call f as => fun L cs Q => wpEs G con as L cs fun ds cs1 => G f ds cs1 Q
  | .bi f as => fun L cs Q => wpOs G con as L cs fun us cs1 => biK f (us.map (view cs1)) fun d => Q d cs1
  | .ix o i => fun L cs Q => opd o (wpE G con o) L cs fun u cs1 => wpE G con i L cs1 fun j cs2 => ixK (view cs2 u) j fun d => Q d cs2
  | .sl o lo hi => fun L cs Q => opd o (wpE G con o) L cs fun u cs1 => wpC G con lo L cs1 fun l cs2 => wpC G con hi L cs2 fun h cs3 => slK (view cs3 u) l h fun d => Q d cs3
  | .tup es => fun L cs Q => wpEs G con es L cs fun ds cs1 => ds.length <= sizeLine /\ Q (.tup ds) cs1
  | .lst es => fun L cs Q => wpEs G con es L cs fun ds cs1 => ds.length <= sizeLine /\ Q (.lst ds) cs1
  | .box e => fun L cs Q => wpE G con e L cs fun d cs1 => match d with
    | .lst ds => Q (.ref cs1.length) (cs1 ++ [.seq ds])
    | .dct ds => Q (.ref cs1.length) (cs1 ++ [.map ds])
    | .dctT ds => Q (.ref cs1.length) (cs1 ++ [.mapT ds])
    | _ => False
  | .mth o m as => fun L cs Q => wpE G con o L cs fun d cs1 => match d with
    | .ref n => (∃ xs,cs1[n]? = some (.seq xs)) /\ wpEs G con as L cs1 fun ds cs2 => match cs2[n]? with
      | some (.seq xs) => ok (lmV m xs ds) fun z => Q z.2 (cs2.set n (.seq z.1))
      | _ => False
    | _ => False
  | .comp own g src t e => fun L cs Q => wpI G con src L cs fun xs st cs1 => (noOwn L own = true /\ xs.length <= sizeLine) /\ compW own g (wpT G con t) (wpE G con e) st xs L cs1 fun ds cs2 => Q (.lst ds) cs2
  | .isi t e => fun L cs Q => wpE G con e L cs fun d cs1 => match isiV t d with
    | some b => Q (.bl b) cs1
    | none => False
  | .dnew t => fun L cs Q => match t with
    | true => Q (.dctT []) cs
    | false => Q (.dct []) cs
  | .dget o k e => fun L cs Q => opd o (wpE G con o) L cs fun u cs1 => isDct (view cs1 u) = true /\ wpE G con k L cs1 fun kd cs2 => wpE G con e L cs2 fun z cs3 => match dAt (view cs3 u) kd with
    | some o => Q (o.getD z) cs3
    | none => False
  | .fld o c f => fun L cs Q => wpE G con o L cs fun d cs1 => match d with
    | .ref n => match cs1[n]? with
      | some (.inst c' fs) => c' = c /\ match fs.lookup f with
        | some x => Q x cs1
        | none => False
      | _ => False
    | _ => False
  | .meth o c m q as => fun L cs Q => wpE G con o L cs fun d cs1 => match d with
    | .ref n => match cs1[n]? with
      | some (.inst c' fs) => (c' = c /\ fs.lookup m = none) /\ wpEs G con as L cs1 fun ds cs2 => G q (.ref n :: ds) cs2 Q
      | _ => False
    | _ => False
  | .new c q as => fun L cs Q => wpEs G con as L cs fun ds cs1 => G q (.ref cs1.length :: ds) (cs1 ++ [.inst c []]) fun d cs2 => d = .non /\ Q (.ref cs1.length) cs2
  | .sset e => fun L cs Q => opd e (wpE G con e) L cs fun u cs1 => ok (ssetV (view cs1 u)) fun d => Q d cs1
  | .trv e => fun L cs Q => wpE G con e L cs fun d cs1 => match d with
    | .tup xs => Q (.tup xs.reverse) cs1
    | _ => False
  | .rev e => fun L cs Q => opd e (wpE G con e) L cs fun u cs1 => ok (revV (view cs1 u)) fun d => Q d cs1
  | .trg t lo hi => fun L cs Q => wpC G con lo L cs fun l cs1 => wpE G con hi L cs1 fun d cs2 => match d with
    | .int j => (0 <= l.getD 0 /\ l.getD 0 <= 16777216 /\ 0 <= j /\ j <= 16777216) /\ match t with
      | true => Q (.tup (rangeD (l.getD 0) (j - l.getD 0).toNat)) cs2
      | false => Q (.lst (rangeD (l.getD 0) (j - l.getD 0).toNat)) cs2
    | _ => False
  | .lend f o => fun L cs Q => opd o (wpE G con o) L cs fun u cs1 => match u with
    | .o _ d => ∃ ns : List Int,d = .lst (ns.map D.int) /\ G f [.ref cs1.length] (cs1 ++ [.seq (ns.map D.int)]) fun r cs2 => D.rbel cs1.length r = true /\ cs2 = cs1 ++ [.seq (ns.map D.int)] /\ Q r cs1
    | _ => False
  | .ptp e => fun L cs Q => opd e (wpE G con e) L cs fun u cs1 => match view cs1 u with
    | .lst xs => Q (.ptup xs) cs1
    | _ => False
  | .pdis es => fun L cs Q => wpEs G con es L cs fun ds cs1 => ds.length <= sizeLine /\ Q (.ptup ds) cs1
  | .tidx o y => fun L cs Q => opd o (wpE G con o) L cs fun u cs1 => isTp (view cs1 u) = true /\ wpE G con y L cs1 fun d cs2 => ok (tidxV (view cs2 u) d) fun r => Q r cs2
  | .lcnt o y => fun L cs Q => opd o (wpE G con o) L cs fun u cs1 => isLs (view cs1 u) = true /\ wpE G con y L cs1 fun d cs2 => ok (lcntV (view cs2 u) d) fun r => Q r cs2
  | .bits o => fun L cs Q => wpE G con o L cs fun d cs1 => ok (bitsV d) fun r => Q r cs1
  | .vtp e => fun L cs Q => wpE G con e L cs fun d cs1 => ok (vtpV d) fun r => Q r cs1
  | .maxd o => fun L cs Q => opd o (wpE G con o) L cs fun u cs1 => ok (maxdV (view cs1 u)) fun r => Q r cs1
  | .dgetn o k e => fun L cs Q => opd o (wpE G con o) L cs fun u cs1 => isDct (view cs1 u) = true /\ wpE G con k L cs1 fun kd cs2 => wpE G con e L cs2 fun z cs3 => match get2V (view cs3 u) kd z with
    | some r => Q r cs3
    | none => False
  | .sm m o y => fun L cs Q => wpE G con o L cs fun d cs1 => isSt d = true /\ opd y (wpE G con y) L cs1 fun u cs2 => ok (smV m d (view cs2 u)) fun r => Q r cs2
  | .six o i => fun L cs Q => wpE G con o L cs fun d cs1 => wpE G con i L cs1 fun j cs2 => ok (sixV d j) fun r => Q r cs2
  | .sin n c s => fun L cs Q => wpE G con c L cs fun d cs1 => wpE G con s L cs1 fun e cs2 => ok (sinV n d e) fun r => Q (.bl r) cs2
  | .kix x e => fun L cs Q => wpE G con e L cs fun d cs1 => ok (kixV (con x) d) fun r => Q r cs1
  | .kget x e z => fun L cs Q => wpE G con e L cs fun d cs1 => wpE G con z L cs1 fun f cs2 => ok (kgetV (con x) d f) fun r => Q r cs2
  | .kin n x e => fun L cs Q => wpE G con e L cs fun d cs1 => ok (kinV n (con x) d) fun r => Q (.bl r) cs1
  | .kmem n x e => fun L cs Q => wpE G con e L cs fun d cs1 => ok (kmemV n (con x) d) fun r => Q (.bl r) cs1
  | .oth x e => fun L cs Q => wpE G con e L cs fun d cs1 => match othV d with
    | some r => Q r cs1
    | none => False
  | .dget1 o k => fun L cs Q => opd o (wpE G con o) L cs fun u cs1 => isDct (view cs1 u) = true /\ wpE G con k L cs1 fun kd cs2 => match get1V (view cs2 u) kd with
    | some r => Q r cs2
    | none => False
  | .lidx o y => fun L cs Q => opd o (wpE G con o) L cs fun u cs1 => lstB (view cs1 u) = true /\ wpE G con y L cs1 fun d cs2 => ok (idxV (view cs2 u) d) fun r => Q r cs2
  | .sdef o k e => fun L cs Q => wpE G con o L cs fun d cs1 => match d with
    | .ref n => (∃ kvs,cs1[n]? = some (.map kvs)) /\ wpE G con k L cs1 fun kd cs2 => wpE G con e L cs2 fun z cs3 => match cs3[n]?,keyK kd with
      | some (.map kvs),some kk => kvs.length < sizeLine /\ match dGet kvs kk with
        | some u => Q u cs3
        | none => Q z (cs3.set n (.map (dPut kvs kk z)))
      | _,_ => False
    | _ => False
  | .ddis ks es => fun L cs Q => wpEs G con es L cs fun ds cs1 => Q (.dct (dAll [] (ks.zip ds))) cs1
  | .te0 e => fun L cs Q => opd e (wpE G con e) L cs fun u cs1 => match view cs1 u with
    | .tup xs => Q (.bl xs.isEmpty) cs1
    | _ => False
  | .nen e => fun L cs Q => opd e (wpE G con e) L cs fun u cs1 => match view cs1 u with
    | .lst xs => Q (.bl (!xs.isEmpty)) cs1
    | _ => False
def wpEs (G : SF) (con : Str -> Option D) : CEs -> Loc -> Cells -> (List D -> Cells -> Prop) -> Prop
  | .nil => fun _ cs Q => Q [] cs
  | .cons e r => fun L cs Q => wpE G con e L cs fun d cs1 => wpEs G con r L cs1 fun ds cs2 => Q (d :: ds) cs2
def wpOs (G : SF) (con : Str -> Option D) : CEs -> Loc -> Cells -> (List Opd -> Cells -> Prop) -> Prop
  | .nil => fun _ cs Q => Q [] cs
  | .cons e r => fun L cs Q => opd e (wpE G con e) L cs fun d cs1 => wpOs G con r L cs1 fun ds cs2 => Q (d :: ds) cs2
def wpC (G : SF) (con : Str -> Option D) : CO -> Loc -> Cells -> (Option Int -> Cells -> Prop) -> Prop
  | .no => fun _ cs Q => Q none cs
  | .yes e => fun L cs Q => wpE G con e L cs fun d cs1 => match d with
    | .int i => Q (some i) cs1
    | _ => False
def wpT (G : SF) (con : Str -> Option D) : CO -> Option SE
  | .no => none
  | .yes e => some (wpE G con e)
def wpI (G : SF) (con : Str -> Option D) : Src -> SI
  | .val e => fun L cs Q => opd e (wpE G con e) L cs fun u cs1 => itemsK (view cs1 u) fun xs => Q xs (stays u cs1) cs1
  | .rng1 a => fun L cs Q => wpE G con a L cs fun d cs1 => match d with
    | .int j => smallI j /\ Q (rangeD 0 j.toNat) (fun _ _ => True) cs1
    | _ => False
  | .rng2 a b => fun L cs Q => wpE G con a L cs fun d cs1 => wpE G con b L cs1 fun d2 cs2 => match d,d2 with
    | .int i,.int j => smallI i /\ smallI j /\ Q (rangeD i (j - i).toNat) (fun _ _ => True) cs2
    | _,_ => False
  | .enum e => fun L cs Q => opd e (wpE G con e) L cs fun u cs1 => itemsK (view cs1 u) fun xs => Q (enumD 0 xs) (stays u cs1) cs1
  | .zip2 a b => fun L cs Q => opd a (wpE G con a) L cs fun u cs1 => opd b (wpE G con b) L cs1 fun v cs2 => itemsK (view cs2 u) fun xs => itemsK (view cs2 v) fun ys =>
      Q (zipD xs ys) (fun L' cs' => stays u cs2 L' cs' /\ stays v cs2 L' cs') cs2
  | .zip3 a b c => fun L cs Q => opd a (wpE G con a) L cs fun u cs1 => opd b (wpE G con b) L cs1 fun v cs2 => opd c (wpE G con c) L cs2 fun w cs3 => itemsK (view cs3 u) fun xs => itemsK (view cs3 v) fun ys => itemsK (view cs3 w) fun zs =>
      Q (zipD3 xs ys zs) (fun L' cs' => stays u cs3 L' cs' /\ stays v cs3 L' cs' /\ stays w cs3 L' cs') cs3
  | .chars e => fun L cs Q => wpE G con e L cs fun d cs1 => match d with
    | .str x => Q (x.cps.toList.map fun c => .str ⟨#[c]⟩) (fun _ _ => True) cs1
    | _ => False
end
structure En where
  nx : Loc -> Cells -> Prop
  rt : D -> Cells -> Prop
  bk : Loc -> Cells -> Prop
  ct : Loc -> Cells -> Prop
def forW (g : Tg) (body : Loc -> Cells -> En -> Prop) (st : Loc -> Cells -> Prop) (k : En) : List D -> Loc -> Cells -> Prop
  | [],L,cs => k.nx L cs
  | x :: xs,L,cs => asg g x L fun L1 => body L1 cs { nx := fun L2 cs2 => st L2 cs2 /\ forW g body st k xs L2 cs2,rt := k.rt,bk := k.nx,ct := fun L2 cs2 => st L2 cs2 /\ forW g body st k xs L2 cs2 }
def frz : List Nat -> Loc -> Loc
  | [],L => L
  | i :: r,L => match L[i]? with
    | some (.own d) => frz r (L.set i (.val d))
    | _ => frz r L
inductive Pl where
  | slot (i : Nat) | cell (n : Nat)
def plc (c : CE) (f : SE) : Loc -> Cells -> (Pl -> Cells -> Prop) -> Prop := fun L cs Q =>
  opd c f L cs fun u cs1 => match u with
    | .o i _ => Q (.slot i) cs1
    | .v (.ref n) => Q (.cell n) cs1
    | .v _ => False
def chg (p : Pl) (L : Loc) (cs : Cells) (f : List D -> Vo (List D × D)) (Q : Loc -> Cells -> Prop) : Prop :=
  match p with
  | .slot i => match L[i]? with
    | some (.own (.lst xs)) => ok (f xs) fun z => Q (L.set i (.own (.lst z.1))) cs
    | _ => False
  | .cell n => match cs[n]? with
    | some (.seq xs) => ok (f xs) fun z => Q L (cs.set n (.seq z.1))
    | _ => False
def lsAt (p : Pl) (L : Loc) (cs : Cells) : Prop :=
  match p with
  | .slot i => ∃ xs,L[i]? = some (.own (.lst xs))
  | .cell n => ∃ xs,cs[n]? = some (.seq xs)
def setV (xs : List D) (i d : D) : Vo (List D × D) :=
  match i with
  | .int i => match L2.ixN xs.length i with
    | some j => yes (xs.set j d,.non)
    | none => none
  | _ => none
def stoV : D -> D -> D -> Vo D
  | .lst xs,i,d => match i with
    | .int i => match L2.ixN xs.length i with
      | some j => yes (.lst (xs.set j d))
      | none => none
    | _ => none
  | .dct kvs,k,d => match keyK k with
    | some k => some (kvs.length < sizeLine,.dct (dPut kvs k d))
    | none => none
  | .dctT kvs,k,d => match keyT k with
    | some k => some (kvs.length < sizeLine,.dctT (dPut kvs k d))
    | none => none
  | _,_,_ => none
def putFd (f : Str) (v : D) : List (Str × D) -> List (Str × D)
  | [] => [(f,v)]
  | (g,x) :: r => if g = f then (g,v) :: r else (g,x) :: putFd f v r
def Cell.d : Cell -> Option D
  | .seq xs => some (.lst xs)
  | .map kvs => some (.dct kvs)
  | .mapT kvs => some (.dctT kvs)
  | .inst _ _ => none
def D.cell : D -> Option Cell
  | .lst xs => some (.seq xs)
  | .dct kvs => some (.map kvs)
  | .dctT kvs => some (.mapT kvs)
  | _ => none
def isOwn (d : D) : Bool := d.cell.isSome
def sto (p : Pl) (L : Loc) (cs : Cells) (f : D -> Vo D) (Q : Loc -> Cells -> Prop) : Prop :=
  match p with
  | .slot i => match L[i]? with
    | some (.own d) => ok (f d) fun z => isOwn z = true /\ Q (L.set i (.own z)) cs
    | _ => False
  | .cell n => match cs[n]? with
    | some c => match c.d with
      | some d => ok (f d) fun z => match z.cell with
        | some c' => Q L (cs.set n c')
        | none => False
      | none => False
    | _ => False
mutual
def wpS (G : SF) (con : Str -> Option D) : CS -> Loc -> Cells -> En -> Prop
  | .set g e => fun L cs k => wpE G con e L cs fun d cs1 => asg g d L fun L1 => k.nx L1 cs1
  | .pops j o => fun L cs k => opd o (wpE G con o) L cs fun u cs1 => match u with
    | .o i (.lst xs) => match xs[xs.length - 1]? with
      | some y => k.nx ((L.set i (.own (.lst xs.dropLast))).set j (.val y)) cs1
      | none => False
    | _ => False
  | .own i e => fun L cs k => wpE G con e L cs fun d cs1 => isOwn d = true /\ k.nx (L.set i (.own d)) cs1
  | .parc i j a b => fun L cs k => wpE G con a L cs fun d cs1 => wpE G con b L cs1 fun e cs2 => isOwn e = true /\ k.nx ((L.set i (.val d)).set j (.own e)) cs2
  | .parv i j a b => fun L cs k => wpE G con a L cs fun d cs1 => wpE G con b L cs1 fun e cs2 => isOwn e = true /\ k.nx ((L.set i (.val d)).set j (.own e)) cs2
  | .paro i j a b => fun L cs k => wpE G con a L cs fun d cs1 => isOwn d = true /\ wpE G con b L cs1 fun e cs2 => isOwn e = true /\ k.nx ((L.set i (.own d)).set j (.own e)) cs2
  | .par i j a b => fun L cs k => wpE G con a L cs fun d cs1 => wpE G con b L cs1 fun e cs2 => k.nx ((L.set i (.val d)).set j (.val e)) cs2
  | .par3 i j l a b c => fun L cs k => wpE G con a L cs fun d cs1 => wpE G con b L cs1 fun e cs2 => wpE G con c L cs2 fun f cs3 => k.nx (((L.set i (.val d)).set j (.val e)).set l (.val f)) cs3
  | .fr is s => fun L cs k => wpS G con s (frz is L) cs k
  | .setix o i e => fun L cs k => wpE G con e L cs fun d cs1 => plc o (wpE G con o) L cs1 fun p cs2 => wpE G con i L cs2 fun j cs3 => sto p L cs3 (fun c => stoV c j d) k.nx
  | .aug i o e => fun L cs k => match L[i]? with
    | some (.val (.int x)) => wpE G con e L cs fun d cs1 => match o,d with
      | .add,.int y => k.nx (L.set i (.val (.int (x + y)))) cs1
      | _,_ => False
    | _ => False
  | .mth o m as => fun L cs k => plc o (wpE G con o) L cs fun p cs1 => lsAt p L cs1 /\ wpEs G con as L cs1 fun ds cs2 => chg p L cs2 (fun xs => lmV m xs ds) k.nx
  | .exp e => fun L cs k => wpE G con e L cs fun _ cs1 => k.nx L cs1
  | .ret e => fun L cs k => wpE G con e L cs fun d cs1 => k.rt d cs1
  | .retn => fun _ cs k => k.rt .non cs
  | .ifs t a b => fun L cs k => opd t (wpE G con t) L cs fun u cs1 => tru (view cs1 u) fun c => match c with
    | true => wpSs G con a L cs1 k
    | false => wpSs G con b L cs1 k
  | .whl t b => fun L cs k => ∃ W : Nat -> Loc -> Cells -> Prop,(∃ m,W m L cs) /\ ∀ m L cs,W m L cs ->
      opd t (wpE G con t) L cs fun u cs1 => tru (view cs1 u) fun c => match c with
        | true => wpSs G con b L cs1 { nx := fun L2 cs2 => ∃ m',m' < m /\ W m' L2 cs2,rt := k.rt,bk := k.nx,ct := fun L2 cs2 => ∃ m',m' < m /\ W m' L2 cs2 }
        | false => k.nx L cs1
  | .for_ g src b => fun L cs k => wpI G con src L cs fun xs st cs1 => forW g (wpSs G con b) st k xs L cs1
  | .pass => fun L cs k => k.nx L cs
  | .brk => fun L cs k => k.bk L cs
  | .setfld o c f e => fun L cs k => wpE G con e L cs fun d cs1 => wpE G con o L cs1 fun x cs2 => match x with
    | .ref n => match cs2[n]? with
      | some (.inst c' fs) => c' = c /\ fs.length < 1000 /\ k.nx L (cs2.set n (.inst c (putFd f d fs)))
      | _ => False
    | _ => False
  | .swp o i o2 i2 a b => fun L cs k => wpE G con a L cs fun d cs1 => wpE G con b L cs1 fun e cs2 => plc o (wpE G con o) L cs2 fun p cs3 => wpE G con i L cs3 fun j cs4 => sto p L cs4 (fun c => stoV c j d) fun L5 cs5 =>
      plc o2 (wpE G con o2) L5 cs5 fun p2 cs6 => wpE G con i2 L5 cs6 fun j2 cs7 => sto p2 L5 cs7 (fun c => stoV c j2 e) k.nx
  | .cnt => fun L cs k => k.ct L cs
  | .rse => fun _ _ _ => False
def wpSs (G : SF) (con : Str -> Option D) : CSs -> Loc -> Cells -> En -> Prop
  | .nil => fun L cs k => k.nx L cs
  | .cons s r => fun L cs k => wpS G con s L cs { nx := fun L1 cs1 => wpSs G con r L1 cs1 k,rt := k.rt,bk := k.bk,ct := k.ct }
end
structure Fn where
  N : List Str
  np : Nat
  body : CSs
structure Tab where
  code : Str -> Option Fn
  con : Str -> Option D
def Kept (c0 : Cells) (d : D) (cs cs' : Cells) : Prop := cs' = cs \/ (cs' = cs.take c0.length /\ D.rbel c0.length d = true /\ ((cs.take c0.length).all (Cell.rbel c0.length) = true \/ cs.take c0.length = c0))
def Gf (T : Tab) : Nat -> SF
  | 0 => fun _ _ _ _ => False
  | k + 1 => fun f ds cs Q => match T.code f with
    | none => False
    | some fn => ds.length = fn.np /\ wpSs (Gf T k) T.con fn.body (ds.map .val ++ List.replicate (fn.N.length - ds.length) .no) cs
        { nx := fun _ cs1 => ∃ cs2,Kept cs .non cs1 cs2 /\ Q .non cs2,rt := fun d cs1 => ∃ cs2,Kept cs d cs1 cs2 /\ Q d cs2,bk := fun _ _ => False,ct := fun _ _ => False }
end Sp
set_option autoImplicit true
namespace Sp
open PySem PySem.Spec PyProof.Rows L2
structure Pm where
  cell : List Addr
  own : Nat -> Option Addr
  rsv : Addr -> Prop
def Pm.M (p : Pm) (a : Addr) : Prop := a ∈ p.cell \/ (∃ i,p.own i = some a) \/ p.rsv a
structure Pm.Ok (p : Pm) : Prop where
  nd : p.cell.Nodup
  inj : ∀ i j a,p.own i = some a -> p.own j = some a -> i = j
  oc : ∀ i a,p.own i = some a -> a ∉ p.cell
  rc : ∀ a,p.rsv a -> a ∉ p.cell
  ro : ∀ a,p.rsv a -> ∀ i,p.own i ≠ some a
def StT (K : PySem.W.Frag) (a : Addr) (xs : List V) : Prop :=
  ∃ (o : Obj) (its : Array Value) (n : Nat),K.lookup a = some o /\ o.cls = .type "tuple" /\ o.data = .seq its n /\ its.size <= sizeLine /\ Vals xs its.toList
def StL (K : PySem.W.Frag) (a : Addr) (xs : List V) : Prop :=
  ∃ (its : List Value) (n : Nat),K.lookup a = some { cls := .type "list",data := .seq its.toArray n } /\ its.length <= sizeLine /\ Vals xs its
def LsX (K : PySem.W.Frag) (H : Hp) (a : Addr) (xs : List V) : Prop := Rd H a (.lst xs) \/ StL K a xs
theorem StT.sq {K : PySem.W.Frag} {H : Hp} {a : Addr} {xs : List V} (h : StT K a xs) : SqT K H a xs := .inr h
theorem StL.sq {K : PySem.W.Frag} {H : Hp} {a : Addr} {xs : List V} (h : StL K a xs) : SqL K H a xs := by
  obtain ⟨its,n,e,z,r⟩ := h
  exact .inr ⟨_,its.toArray,n,e,rfl,rfl,rfl,by simpa using z,by simpa using r⟩
theorem LsX.sq {K : PySem.W.Frag} {H : Hp} {a : Addr} {xs : List V} (h : LsX K H a xs) : SqL K H a xs := h.elim .inl StL.sq
theorem lsx {X : Cx} {pins : List (Addr × Obj)} {σ : L2.St} {H : Hp} {s : Shared} {a : Addr} {xs : List V} (I : Inv X pins σ H s) (h : LsX X.K H a xs) :
    ∃ (its : List Value) (n : Nat),Vals xs its /\ xs.length = its.length /\ xs.length <= sizeLine /\ s.heap.get? a = some { cls := .type "list",data := .seq its.toArray n } := by
  rcases h with h | ⟨its,n,e,z,r⟩
  · obtain ⟨z,its,n,r,e⟩ := h.ok I.hok
    exact ⟨its,n,r,r.length,z,e⟩
  · exact ⟨its,n,r,r.length,by rw [r.length]; exact z,I.kIn a _ e⟩
structure CAt (K : PySem.W.Frag) (c : Str) (C : Addr) : Prop where
  at_ : PySem.W.nsIn K mainGlobals c = some (some (.ref C))
  cls : Cls K C
theorem CAt.uniq {K : PySem.W.Frag} {c : Str} {C C' : Addr} (h : CAt K c C) (h' : CAt K c C') : C = C' := by
  have := h.at_.symm.trans h'.at_
  cases this
  rfl
mutual
inductive Rep (K : PySem.W.Frag) (p : Pm) (H : Hp) : V -> D -> Prop
  | non : Rep K p H .non .non
  | bl (b : Bool) : Rep K p H (.bl b) (.bl b)
  | int (i : Int) : Rep K p H (.int i) (.int i)
  | str (x : Str) : Rep K p H (.str x) (.str x)
  | tup {a : Addr} {vs : List V} {ds : List D} : H a = some (.tup vs) -> ¬ p.M a -> Reps K p H vs ds -> Rep K p H (.ref a) (.tup ds)
  | lst {a : Addr} {vs : List V} {ds : List D} : (Rd H a (.lst vs) /\ ¬ p.M a) \/ StL K a vs -> Reps K p H vs ds -> Rep K p H (.ref a) (.lst ds)
  | dK {a : Addr} {kvs : List (Key × V)} {ds : List (Key × D)} : Rd H a (.dK kvs) -> ¬ p.M a -> RepK K p H kvs ds -> Rep K p H (.ref a) (.dct ds)
  | dT {a : Addr} {kvs : List (List Key × V)} {ds : List (List Key × D)} : Rd H a (.dT kvs) -> ¬ p.M a -> RepT K p H kvs ds -> Rep K p H (.ref a) (.dctT ds)
  | ref {n : Nat} {a : Addr} : p.cell[n]? = some a -> Rep K p H (.ref a) (.ref n)
  | ptup {a : Addr} {o : Obj} {vs : List V} {ds : List D} : H a = some (.frz o (.tup vs)) -> o.dict = none -> ¬ p.M a -> Reps K p H vs ds -> Rep K p H (.ref a) (.ptup ds)
  | vtup {a : Addr} {vs : List V} {ds : List D} : Rd H a (.tup vs) -> ¬ p.M a -> Reps K p H vs ds -> Rep K p H (.ref a) (.vtup ds)
inductive Reps (K : PySem.W.Frag) (p : Pm) (H : Hp) : List V -> List D -> Prop
  | nil : Reps K p H [] []
  | cons {v : V} {vs : List V} {d : D} {ds : List D} : Rep K p H v d -> Reps K p H vs ds -> Reps K p H (v :: vs) (d :: ds)
inductive RepK (K : PySem.W.Frag) (p : Pm) (H : Hp) : List (Key × V) -> List (Key × D) -> Prop
  | nil : RepK K p H [] []
  | cons {k : Key} {v : V} {vs : List (Key × V)} {d : D} {ds : List (Key × D)} : Rep K p H v d -> RepK K p H vs ds -> RepK K p H ((k,v) :: vs) ((k,d) :: ds)
inductive RepT (K : PySem.W.Frag) (p : Pm) (H : Hp) : List (List Key × V) -> List (List Key × D) -> Prop
  | nil : RepT K p H [] []
  | cons {k : List Key} {v : V} {vs : List (List Key × V)} {d : D} {ds : List (List Key × D)} : Rep K p H v d -> RepT K p H vs ds -> RepT K p H ((k,v) :: vs) ((k,d) :: ds)
end
structure Mv (p p' : Pm) (H H' : Hp) : Prop where
  at_ : ∀ a u,H a = some u -> ¬ p.M a -> H' a = some u /\ ¬ p'.M a
  cl : ∀ (n : Nat) a,p.cell[n]? = some a -> p'.cell[n]? = some a
theorem Mv.rd {p p' : Pm} {H H' : Hp} (m : Mv p p' H H') {a : Addr} {u : HO} (h : Rd H a u) (n : ¬ p.M a) : Rd H' a u /\ ¬ p'.M a := by
  rcases h with h | ⟨o,h⟩
  · exact ⟨.inl (m.at_ a u h n).1,(m.at_ a u h n).2⟩
  · exact ⟨.inr ⟨o,(m.at_ a _ h n).1⟩,(m.at_ a _ h n).2⟩
section
variable {K : PySem.W.Frag} {p p' : Pm} {H H' : Hp}
mutual
theorem Rep.mv (m : Mv p p' H H') : ∀ {v : V} {d : D},Rep K p H v d -> Rep K p' H' v d
  | _,_,.non => .non
  | _,_,.bl b => .bl b
  | _,_,.int i => .int i
  | _,_,.str x => .str x
  | _,_,.tup h n r => .tup (m.at_ _ _ h n).1 (m.at_ _ _ h n).2 (Reps.mv m r)
  | _,_,.lst h r => .lst (h.elim (fun q => .inl (m.rd q.1 q.2)) .inr) (Reps.mv m r)
  | _,_,.dK h n r => .dK (m.rd h n).1 (m.rd h n).2 (RepK.mv m r)
  | _,_,.dT h n r => .dT (m.rd h n).1 (m.rd h n).2 (RepT.mv m r)
  | _,_,.ref h => .ref (m.cl _ _ h)
  | _,_,.ptup h d n r => .ptup (m.at_ _ _ h n).1 d (m.at_ _ _ h n).2 (Reps.mv m r)
  | _,_,.vtup h n r => .vtup (m.rd h n).1 (m.rd h n).2 (Reps.mv m r)
theorem Reps.mv (m : Mv p p' H H') : ∀ {vs : List V} {ds : List D},Reps K p H vs ds -> Reps K p' H' vs ds
  | _,_,.nil => .nil
  | _,_,.cons h r => .cons (Rep.mv m h) (Reps.mv m r)
theorem RepK.mv (m : Mv p p' H H') : ∀ {vs : List (Key × V)} {ds : List (Key × D)},RepK K p H vs ds -> RepK K p' H' vs ds
  | _,_,.nil => .nil
  | _,_,.cons h r => .cons (Rep.mv m h) (RepK.mv m r)
theorem RepT.mv (m : Mv p p' H H') : ∀ {vs : List (List Key × V)} {ds : List (List Key × D)},RepT K p H vs ds -> RepT K p' H' vs ds
  | _,_,.nil => .nil
  | _,_,.cons h r => .cons (Rep.mv m h) (RepT.mv m r)
end
theorem Reps.len : ∀ {vs : List V} {ds : List D},Reps K p H vs ds -> vs.length = ds.length
  | _,_,.nil => rfl
  | _,_,.cons _ r => by rw [List.length_cons,List.length_cons,Reps.len r]
theorem Reps.get : ∀ {vs : List V} {ds : List D} {i : Nat} {d : D},Reps K p H vs ds -> ds[i]? = some d -> ∃ v,vs[i]? = some v /\ Rep K p H v d
  | _,_,_,_,.nil,e => by simp at e
  | _,_,0,_,.cons h _,e => by
    simp at e
    subst e
    exact ⟨_,rfl,h⟩
  | _,_,i + 1,_,.cons _ r,e => by
    obtain ⟨v,h1,h2⟩ := Reps.get (i := i) r (by simpa using e)
    exact ⟨v,by simpa using h1,h2⟩
theorem Reps.append : ∀ {vs ws : List V} {ds es : List D},Reps K p H vs ds -> Reps K p H ws es -> Reps K p H (vs ++ ws) (ds ++ es)
  | _,_,_,_,.nil,s => s
  | _,_,_,_,.cons h r,s => .cons h (Reps.append r s)
theorem Reps.take : ∀ {vs : List V} {ds : List D} (n : Nat),Reps K p H vs ds -> Reps K p H (vs.take n) (ds.take n)
  | _,_,0,_ => .nil
  | _,_,_ + 1,.nil => .nil
  | _,_,n + 1,.cons h r => .cons h (Reps.take n r)
theorem Reps.drop : ∀ {vs : List V} {ds : List D} (n : Nat),Reps K p H vs ds -> Reps K p H (vs.drop n) (ds.drop n)
  | _,_,0,h => h
  | _,_,_ + 1,.nil => .nil
  | _,_,n + 1,.cons _ r => Reps.drop n r
theorem Reps.set {v : V} {d : D} (h : Rep K p H v d) : ∀ {vs : List V} {ds : List D} (n : Nat),Reps K p H vs ds -> Reps K p H (vs.set n v) (ds.set n d)
  | _,_,_,.nil => .nil
  | _,_,0,.cons _ r => .cons h r
  | _,_,n + 1,.cons q r => .cons q (Reps.set h n r)
theorem Reps.erase : ∀ {vs : List V} {ds : List D} (n : Nat),Reps K p H vs ds -> Reps K p H (vs.eraseIdx n) (ds.eraseIdx n)
  | _,_,_,.nil => .nil
  | _,_,0,.cons _ r => r
  | _,_,n + 1,.cons q r => .cons q (Reps.erase n r)
theorem Reps.rep {vs : List V} {ds : List D} (h : Reps K p H vs ds) : ∀ n : Nat,Reps K p H (List.replicate n vs).flatten (List.replicate n ds).flatten
  | 0 => .nil
  | n + 1 => by
    rw [List.replicate_succ,List.replicate_succ,List.flatten_cons,List.flatten_cons]
    exact h.append (Reps.rep h n)
end
structure Ext (p p' : Pm) (H H' : Hp) : Prop where
  cell : ∃ more,p'.cell = p.cell ++ more /\ ∀ a ∈ more,H a = none
  keep : ∀ b o,H b = some o -> b ∉ p.cell -> (∀ i,p.own i ≠ some b) -> H' b = some o
  ownN : ∀ i a,p'.own i = some a -> (∃ j,p.own j = some a) \/ H a = none
  rsv : p'.rsv = p.rsv
  dom : ∀ b,H b ≠ none -> H' b ≠ none
structure ExtE (p p' : Pm) (H H' : Hp) : Prop where
  ext : Ext p p' H H'
  own : p'.own = p.own
  keepO : ∀ i b,p.own i = some b -> H' b = H b
section
variable {p p' p'' : Pm} {H H' H'' : Hp}
theorem Ext.refl : Ext p p H H := ⟨⟨[],by simp,by simp⟩,fun _ _ h _ _ => h,fun i a h => .inl ⟨i,h⟩,rfl,fun _ h => h⟩
theorem ExtE.refl : ExtE p p H H := ⟨.refl,rfl,fun _ _ _ => rfl⟩
theorem Ext.trans (x : Ext p p' H H') (y : Ext p' p'' H' H'') : Ext p p'' H H'' := by
  obtain ⟨m1,e1,n1⟩ := x.cell
  obtain ⟨m2,e2,n2⟩ := y.cell
  have back : ∀ a,H' a = none -> H a = none := fun a h => by
    cases q : H a with
    | none => rfl
    | some o => exact absurd h (x.dom a (by rw [q]; exact Option.some_ne_none o))
  refine ⟨⟨m1 ++ m2,by rw [e2,e1,List.append_assoc],fun a ha => ?_⟩,fun b o h hc ho => ?_,fun i a h => ?_,y.rsv.trans x.rsv,fun b h => y.dom b (x.dom b h)⟩
  · rcases List.mem_append.mp ha with h | h
    · exact n1 a h
    · exact back a (n2 a h)
  · refine y.keep b o (x.keep b o h hc ho) (fun hm => ?_) fun i hi => ?_
    · rw [e1] at hm
      rcases List.mem_append.mp hm with q | q
      · exact hc q
      · rw [n1 b q] at h; cases h
    · rcases x.ownN i b hi with ⟨j,q⟩ | q
      · exact ho j q
      · rw [q] at h; cases h
  · rcases y.ownN i a h with ⟨j,q⟩ | q
    · exact x.ownN j a q
    · exact .inr (back a q)
theorem ExtE.trans (x : ExtE p p' H H') (y : ExtE p' p'' H' H'') : ExtE p p'' H H'' :=
  ⟨x.ext.trans y.ext,y.own.trans x.own,fun i b h => (y.keepO i b (by rw [x.own]; exact h)).trans (x.keepO i b h)⟩
theorem Ext.mv (x : Ext p p' H H') : Mv p p' H H' := by
  obtain ⟨m1,e1,n1⟩ := x.cell
  refine ⟨fun a u h n => ⟨x.keep a u h (fun q => n (.inl q)) fun i q => n (.inr (.inl ⟨i,q⟩)),?_⟩,fun n a h => ?_⟩
  · rintro (q | ⟨i,q⟩ | q)
    · rw [e1] at q
      rcases List.mem_append.mp q with q | q
      · exact n (.inl q)
      · rw [n1 a q] at h; cases h
    · rcases x.ownN i a q with ⟨j,q⟩ | q
      · exact n (.inr (.inl ⟨j,q⟩))
      · rw [q] at h; cases h
    · rw [x.rsv] at q
      exact n (.inr (.inr q))
  · rw [e1,List.getElem?_append_left (List.getElem?_eq_some_iff.mp h).1]
    exact h
end
def Con (K : PySem.W.Frag) (p : Pm) (H : Hp) (a : Addr) : D -> Prop
  | .lst ds => ∃ vs,H a = some (.lst vs) /\ Reps K p H vs ds
  | .dct ds => ∃ kvs,H a = some (.dK kvs) /\ RepK K p H kvs ds
  | .dctT ds => ∃ kvs,H a = some (.dT kvs) /\ RepT K p H kvs ds
  | _ => False
def CellOk (K : PySem.W.Frag) (p : Pm) (H : Hp) (a : Addr) : Cell -> Prop
  | .seq ds => Con K p H a (.lst ds)
  | .map ds => Con K p H a (.dct ds)
  | .mapT ds => Con K p H a (.dctT ds)
  | .inst c fs => ∃ C dx vs,H a = some (.ins C dx vs) /\ CAt K c C /\ vs.map (·.1) = fs.map (·.1) /\ Reps K p H (vs.map (·.2)) (fs.map (·.2))
def SlotOk (K : PySem.W.Frag) (p : Pm) (H : Hp) (σ : L2.St) (i : Nat) : Slot -> Prop
  | .no => True
  | .val d => ∃ v,σ[i]? = some (some v) /\ Rep K p H v d
  | .own d => ∃ a,p.own i = some a /\ σ[i]? = some (some (.ref a)) /\ Con K p H a d
structure CsOk (K : PySem.W.Frag) (p : Pm) (H : Hp) (cs : Cells) : Prop where
  len : p.cell.length = cs.length
  at_ : ∀ (n : Nat) c a,cs[n]? = some c -> p.cell[n]? = some a -> CellOk K p H a c
def Bx (o : Option HO) : Prop := o ≠ none /\ ∀ vs,o ≠ some (.tup vs)
structure Rl (K : PySem.W.Frag) (p : Pm) (σ : L2.St) (H : Hp) (L : Loc) (cs : Cells) : Prop where
  ok : p.Ok
  slen : L.length = σ.length
  slot : ∀ (i : Nat) s,L[i]? = some s -> SlotOk K p H σ i s
  ownL : ∀ i a,p.own i = some a -> ∃ d,L[i]? = some (.own d)
  cells : CsOk K p H cs
  rsv : ∀ a,p.rsv a -> Bx (H a)
section
variable {K : PySem.W.Frag} {p p' : Pm} {σ : L2.St} {H H' : Hp} {L : Loc} {cs : Cells}
theorem Con.some {a : Addr} : ∀ {d : D},Con K p H a d -> H a ≠ none
  | .lst _,⟨vs,h,_⟩ => by rw [h]; exact Option.some_ne_none _
  | .dct _,⟨vs,h,_⟩ => by rw [h]; exact Option.some_ne_none _
  | .dctT _,⟨vs,h,_⟩ => by rw [h]; exact Option.some_ne_none _
theorem Con.bx {a : Addr} : ∀ {d : D},Con K p H a d -> Bx (H a)
  | .lst _,⟨vs,h,_⟩ => by rw [h]; exact ⟨Option.some_ne_none _,fun _ e => nomatch e⟩
  | .dct _,⟨vs,h,_⟩ => by rw [h]; exact ⟨Option.some_ne_none _,fun _ e => nomatch e⟩
  | .dctT _,⟨vs,h,_⟩ => by rw [h]; exact ⟨Option.some_ne_none _,fun _ e => nomatch e⟩
theorem Con.mv (m : Mv p p' H H') {a : Addr} (e : H' a = H a) : ∀ {d : D},Con K p H a d -> Con K p' H' a d
  | .lst _,⟨vs,h,r⟩ => ⟨vs,e.trans h,r.mv m⟩
  | .dct _,⟨vs,h,r⟩ => ⟨vs,e.trans h,r.mv m⟩
  | .dctT _,⟨vs,h,r⟩ => ⟨vs,e.trans h,r.mv m⟩
theorem CellOk.mv (m : Mv p p' H H') {a : Addr} (e : H' a = H a) : ∀ {c : Cell},CellOk K p H a c -> CellOk K p' H' a c
  | .seq _,h => Con.mv m e (d := .lst _) h
  | .map _,h => Con.mv m e (d := .dct _) h
  | .mapT _,h => Con.mv m e (d := .dctT _) h
  | .inst _ _,⟨C,dx,vs,h,c,k,r⟩ => ⟨C,dx,vs,e.trans h,c,k,r.mv m⟩
theorem CellOk.some {a : Addr} : ∀ {c : Cell},CellOk K p H a c -> H a ≠ none
  | .seq _,h => Con.some (d := .lst _) h
  | .map _,h => Con.some (d := .dct _) h
  | .mapT _,h => Con.some (d := .dctT _) h
  | .inst _ _,⟨C,dx,vs,h,_⟩ => by rw [h]; exact Option.some_ne_none _
theorem CellOk.bx {a : Addr} : ∀ {c : Cell},CellOk K p H a c -> Bx (H a)
  | .seq _,h => Con.bx (d := .lst _) h
  | .map _,h => Con.bx (d := .dct _) h
  | .mapT _,h => Con.bx (d := .dctT _) h
  | .inst _ _,⟨C,dx,vs,h,_⟩ => by rw [h]; exact ⟨Option.some_ne_none _,fun _ e => nomatch e⟩
theorem CsOk.some (C : CsOk K p H cs) {a : Addr} (h : a ∈ p.cell) : H a ≠ none := by
  obtain ⟨n,hn,e⟩ := List.getElem_of_mem h
  have hn' : n < cs.length := by rw [<- C.len]; exact hn
  exact (C.at_ n cs[n] a (List.getElem?_eq_getElem hn') (by rw [List.getElem?_eq_getElem hn,e])).some
theorem CsOk.bx (C : CsOk K p H cs) {a : Addr} (h : a ∈ p.cell) : Bx (H a) := by
  obtain ⟨n,hn,e⟩ := List.getElem_of_mem h
  have hn' : n < cs.length := by rw [<- C.len]; exact hn
  exact (C.at_ n cs[n] a (List.getElem?_eq_getElem hn') (by rw [List.getElem?_eq_getElem hn,e])).bx
theorem Rl.bx (R : Rl K p σ H L cs) {a : Addr} (h : p.M a) : Bx (H a) := by
  rcases h with q | ⟨i,q⟩ | q
  · exact R.cells.bx q
  · obtain ⟨d,e⟩ := R.ownL i a q
    obtain ⟨b,e1,_,c⟩ := R.slot i _ e
    rw [q] at e1
    cases e1
    exact c.bx
  · exact R.rsv a q
def NT (p : Pm) (H : Hp) : Prop := ∀ a vs,H a = some (.tup vs) -> ¬ p.M a
theorem Rl.nt (R : Rl K p σ H L cs) : NT p H := fun a vs h m => (R.bx m).2 vs h
theorem Rl.M (R : Rl K p σ H L cs) {a : Addr} (h : H a = none) : ¬ p.M a := by
  rintro (q | ⟨i,q⟩ | q)
  · exact R.cells.some q h
  · obtain ⟨d,e⟩ := R.ownL i a q
    obtain ⟨b,e1,_,c⟩ := R.slot i _ e
    rw [q] at e1
    cases e1
    exact c.some h
  · exact (R.rsv a q).1 h
theorem Rl.new (R : Rl K p σ H L cs) {a : Addr} {o : HO} (h : H a = none) : Rl K p σ (upd H a o) L cs /\ ExtE p p H (upd H a o) := by
  have st : ∀ b,H b ≠ none -> (upd H a o) b = H b := fun b hb => upd_ne (fun e => hb (e ▸ h))
  have m : Mv p p H (upd H a o) := ⟨fun b u e n => ⟨(st b (by rw [e]; exact Option.some_ne_none u)).trans e,n⟩,fun _ _ e => e⟩
  refine ⟨⟨R.ok,R.slen,fun i s e => ?_,R.ownL,⟨R.cells.len,fun n c b e1 e2 => ?_⟩,fun b hb => ?_⟩,⟨⟨⟨[],by simp,by simp⟩,fun b u e _ _ => ?_,fun i b e => .inl ⟨i,e⟩,rfl,fun b hb => ?_⟩,rfl,fun i b e => ?_⟩⟩
  · have q := R.slot i s e
    cases s with
    | no => trivial
    | val d =>
      obtain ⟨v,e1,r⟩ := q
      exact ⟨v,e1,r.mv m⟩
    | own d =>
      obtain ⟨b,e1,e2,c⟩ := q
      exact ⟨b,e1,e2,c.mv m (st b c.some)⟩
  · have q := R.cells.at_ n c b e1 e2
    exact q.mv m (st b q.some)
  · rw [st b (R.rsv b hb).1]; exact R.rsv b hb
  · exact (st b (by rw [e]; exact Option.some_ne_none u)).trans e
  · rw [st b hb]; exact hb
  · obtain ⟨d,e'⟩ := R.ownL i b e
    obtain ⟨b',e1,_,c⟩ := R.slot i _ e'
    rw [e] at e1
    cases e1
    exact st b c.some
theorem Reps.new {vs : List V} {ds : List D} (R : Rl K p σ H L cs) {a : Addr} {o : HO} (h : H a = none) (r : Reps K p H vs ds) : Reps K p (upd H a o) vs ds :=
  r.mv (R.new (o := o) h).2.ext.mv
end
abbrev Pm.with (p : Pm) (a : Addr) : Pm := { p with rsv := fun b => b = a \/ p.rsv b }
def RE (K : PySem.W.Frag) (f : SE) : TE := fun σ H Q => ∃ p L cs,Rl K p σ H L cs /\ f L cs fun d cs' => ∀ v p' H',Rl K p' σ H' L cs' -> ExtE p p' H H' -> Rep K p' H' v d -> Q v H'
def RepO (K : PySem.W.Frag) (p : Pm) (H : Hp) (L : Loc) (v : V) : Opd -> Prop
  | .v d => Rep K p H v d
  | .o i d => ∃ a,v = .ref a /\ p.own i = some a /\ L[i]? = some (.own d)
def RO (K : PySem.W.Frag) (c : CE) (f : SE) : TE := fun σ H Q => ∃ p L cs,Rl K p σ H L cs /\ opd c f L cs fun u cs' => ∀ v p' H',Rl K p' σ H' L cs' -> ExtE p p' H H' -> RepO K p' H' L v u -> Q v H'
def RF (K : PySem.W.Frag) (f : SE) : TE := fun σ H Q => ∃ p L cs,Rl K p σ H L cs /\ f L cs fun d cs' => isOwn d = true /\ ∀ a p' H',Rl K (p'.with a) σ H' L cs' -> ExtE p p' H H' -> H a = none -> ¬ p'.M a -> Con K (p'.with a) H' a d -> Q (.ref a) H'
theorem RepO.mv {K : PySem.W.Frag} {p p' : Pm} {H H' : Hp} {L : Loc} {v : V} (x : ExtE p p' H H') : ∀ {u : Opd},RepO K p H L v u -> RepO K p' H' L v u
  | .v _,h => Rep.mv x.ext.mv h
  | .o _ _,⟨a,e,h,l⟩ => ⟨a,e,by rw [x.own]; exact h,l⟩
def Seen (K : PySem.W.Frag) (p : Pm) (H : Hp) (v : V) : D -> Prop
  | .lst ds => ∃ a vs,v = .ref a /\ LsX K H a vs /\ Reps K p H vs ds
  | .dct ds => ∃ a kvs,v = .ref a /\ Rd H a (.dK kvs) /\ RepK K p H kvs ds
  | .dctT ds => ∃ a kvs,v = .ref a /\ Rd H a (.dT kvs) /\ RepT K p H kvs ds
  | d => Rep K p H v d
section
variable {K : PySem.W.Frag} {p p' : Pm} {σ : L2.St} {H H' : Hp} {L : Loc} {cs : Cells} {v : V}
theorem Rep.tupS {ds : List D} (h : Rep K p H v (.tup ds)) : ∃ a vs,v = .ref a /\ SqT K H a vs /\ Reps K p H vs ds := by
  cases h with
  | tup q n r => exact ⟨_,_,rfl,.inl (.inl q),r⟩
theorem Rep.tupH {ds : List D} (h : Rep K p H v (.tup ds)) : ∃ a vs,v = .ref a /\ H a = some (.tup vs) /\ Reps K p H vs ds := by
  cases h with
  | tup q n r => exact ⟨_,_,rfl,q,r⟩
theorem Rep.ptupS {ds : List D} (h : Rep K p H v (.ptup ds)) : ∃ a vs,v = .ref a /\ SqT K H a vs /\ (∃ o,H a = some (.frz o (.tup vs)) /\ o.dict = none) /\ Reps K p H vs ds := by
  cases h with
  | ptup q d n r => exact ⟨_,_,rfl,.inl (.inr ⟨_,q⟩),⟨_,q,d⟩,r⟩
theorem Rep.vtupS {ds : List D} (h : Rep K p H v (.vtup ds)) : ∃ a vs,v = .ref a /\ SqT K H a vs /\ Rd H a (.tup vs) /\ Reps K p H vs ds := by
  cases h with
  | vtup q n r => exact ⟨_,_,rfl,.inl q,q,r⟩
theorem Rep.seen : ∀ {d : D},Rep K p H v d -> Seen K p H v d
  | .lst _,h => by
    cases h with
    | lst q r => exact ⟨_,_,rfl,q.elim (fun z => .inl z.1) .inr,r⟩
  | .dct _,h => by
    cases h with
    | dK q n r => exact ⟨_,_,rfl,q,r⟩
  | .dctT _,h => by
    cases h with
    | dT q n r => exact ⟨_,_,rfl,q,r⟩
  | .non,h | .bl _,h | .int _,h | .str _,h | .tup _,h | .ptup _,h | .vtup _,h | .ref _,h => h
theorem Con.seen {a : Addr} : ∀ {d : D},Con K p H a d -> Seen K p H (.ref a) d
  | .lst _,⟨vs,h,r⟩ => ⟨a,vs,rfl,.inl (.inl h),r⟩
  | .dct _,⟨vs,h,r⟩ => ⟨a,vs,rfl,.inl h,r⟩
  | .dctT _,⟨vs,h,r⟩ => ⟨a,vs,rfl,.inl h,r⟩
theorem Rl.deref (R : Rl K p σ H L cs) {d : D} (h : Rep K p H v d) : Seen K p H v (deref cs d) := by
  unfold Sp.deref
  split
  · rename_i n
    cases h with
    | ref hn =>
      split
      · rename_i xs e
        exact Con.seen (d := .lst xs) (R.cells.at_ n (.seq xs) _ e hn)
      · rename_i xs e
        exact Con.seen (d := .dct xs) (R.cells.at_ n (.map xs) _ e hn)
      · rename_i xs e
        exact Con.seen (d := .dctT xs) (R.cells.at_ n (.mapT xs) _ e hn)
      · exact .ref hn
  · exact h.seen
theorem Rl.view (R : Rl K p σ H L cs) : ∀ {u : Opd},RepO K p H L v u -> Seen K p H v (view cs u)
  | .v _,h => R.deref h
  | .o i d,⟨a,e,h,l⟩ => by
    obtain ⟨b,e1,_,c⟩ := R.slot i _ l
    rw [h] at e1
    cases e1
    rw [e]
    exact c.seen
def Res (K : PySem.W.Frag) (p : Pm) (H : Hp) (z : D) (v : V) (H' : Hp) : Prop :=
  match z with
  | .lst ds => ∃ a vs,v = .ref a /\ H a = none /\ H' = upd H a (.lst vs) /\ Reps K p H vs ds
  | .tup ds => (∃ a vs,v = .ref a /\ H a = none /\ H' = upd H a (.tup vs) /\ Reps K p H vs ds) \/ (H' = H /\ Rep K p H v (.tup ds))
  | .vtup ds => (∃ a vs,v = .ref a /\ H a = none /\ H' = upd H a (.tup vs) /\ Reps K p H vs ds) \/ (H' = H /\ Rep K p H v (.vtup ds))
  | .dct ds => ∃ a vs,v = .ref a /\ H a = none /\ H' = upd H a (.dK vs) /\ RepK K p H vs ds
  | .dctT ds => ∃ a vs,v = .ref a /\ H a = none /\ H' = upd H a (.dT vs) /\ RepT K p H vs ds
  | z => H' = H /\ Rep K p H v z
theorem Rl.res (R : Rl K p σ H L cs) {z : D} (h : Res K p H z v H') : Rl K p σ H' L cs /\ ExtE p p H H' /\ Rep K p H' v z := by
  have same : ∀ {z : D},H' = H /\ Rep K p H v z -> Rl K p σ H' L cs /\ ExtE p p H H' /\ Rep K p H' v z := fun ⟨e,r⟩ => by subst e; exact ⟨R,.refl,r⟩
  cases z with
  | lst ds =>
    obtain ⟨a,vs,rfl,hn,rfl,r⟩ := h
    obtain ⟨R1,x⟩ := R.new (o := .lst vs) hn
    exact ⟨R1,x,.lst (.inl ⟨.inl upd_same,R.M hn⟩) (r.mv x.ext.mv)⟩
  | tup ds =>
    rcases h with ⟨a,vs,rfl,hn,rfl,r⟩ | h
    · obtain ⟨R1,x⟩ := R.new (o := .tup vs) hn
      exact ⟨R1,x,.tup upd_same (R.M hn) (r.mv x.ext.mv)⟩
    · exact same h
  | vtup ds =>
    rcases h with ⟨a,vs,rfl,hn,rfl,r⟩ | h
    · obtain ⟨R1,x⟩ := R.new (o := .tup vs) hn
      exact ⟨R1,x,.vtup (.inl upd_same) (R.M hn) (r.mv x.ext.mv)⟩
    · exact same h
  | dct ds =>
    obtain ⟨a,vs,rfl,hn,rfl,r⟩ := h
    obtain ⟨R1,x⟩ := R.new (o := .dK vs) hn
    exact ⟨R1,x,.dK (.inl upd_same) (R.M hn) (r.mv x.ext.mv)⟩
  | dctT ds =>
    obtain ⟨a,vs,rfl,hn,rfl,r⟩ := h
    obtain ⟨R1,x⟩ := R.new (o := .dT vs) hn
    exact ⟨R1,x,.dT (.inl upd_same) (R.M hn) (r.mv x.ext.mv)⟩
  | _ => exact same h
theorem Mv.less {a : Addr} : Mv (p.with a) p H H := ⟨fun b u e n => ⟨e,fun q => n (q.elim .inl fun z => .inr (z.elim .inl fun y => .inr (.inr y)))⟩,fun _ _ e => e⟩
theorem Rl.less {a : Addr} (R : Rl K (p.with a) σ H L cs) : Rl K p σ H L cs := by
  refine ⟨⟨R.ok.nd,R.ok.inj,R.ok.oc,fun b h => R.ok.rc b (.inr h),fun b h => R.ok.ro b (.inr h)⟩,R.slen,fun i s e => ?_,R.ownL,⟨R.cells.len,fun n c b e1 e2 => ?_⟩,fun b h => R.rsv b (.inr h)⟩
  · have q := R.slot i s e
    cases s with
    | no => trivial
    | val d =>
      obtain ⟨v,e1,r⟩ := q
      exact ⟨v,e1,r.mv Mv.less⟩
    | own d =>
      obtain ⟨b,e1,e2,c⟩ := q
      exact ⟨b,e1,e2,c.mv Mv.less rfl⟩
  · exact (R.cells.at_ n c b e1 e2).mv Mv.less rfl
theorem Rl.more {a : Addr} {o : HO} (R : Rl K p σ H L cs) (h : H a = none) (ho : ∀ vs,o ≠ .tup vs) : Rl K (p.with a) σ (upd H a o) L cs /\ Mv p (p.with a) H (upd H a o) := by
  have m : Mv p (p.with a) H (upd H a o) := by
    refine ⟨fun b u e n => ⟨(upd_ne fun q => by rw [q,h] at e; cases e).trans e,?_⟩,fun _ _ e => e⟩
    rintro (q | q | q | q)
    · exact n (.inl q)
    · exact n (.inr (.inl q))
    · rw [q,h] at e; cases e
    · exact n (.inr (.inr q))
  have st : ∀ b,H b ≠ none -> (upd H a o) b = H b := fun b hb => upd_ne (fun e => hb (e ▸ h))
  have hM := R.M h
  refine ⟨⟨⟨R.ok.nd,R.ok.inj,R.ok.oc,fun b q => ?_,fun b q => ?_⟩,R.slen,fun i s e => ?_,R.ownL,⟨R.cells.len,fun n c b e1 e2 => ?_⟩,fun b q => ?_⟩,m⟩
  · rcases q with rfl | q
    · exact fun z => hM (.inl z)
    · exact R.ok.rc b q
  · rcases q with rfl | q
    · exact fun i z => hM (.inr (.inl ⟨i,z⟩))
    · exact R.ok.ro b q
  · have q := R.slot i s e
    cases s with
    | no => trivial
    | val d =>
      obtain ⟨v,e1,r⟩ := q
      exact ⟨v,e1,r.mv m⟩
    | own d =>
      obtain ⟨b,e1,e2,c⟩ := q
      exact ⟨b,e1,e2,c.mv m (st b c.some)⟩
  · have q := R.cells.at_ n c b e1 e2
    exact q.mv m (st b q.some)
  · rcases q with rfl | q
    · rw [upd_same]; exact ⟨Option.some_ne_none o,fun vs e => ho vs (Option.some.inj e)⟩
    · rw [st b (R.rsv b q).1]; exact R.rsv b q
end
end Sp
set_option autoImplicit true
namespace Sp
open PySem PySem.Spec PyProof.Rows L2
def SFm (G : SF) : Prop := ∀ f ds cs (Q Q' : D -> Cells -> Prop),(∀ d c,Q d c -> Q' d c) -> G f ds cs Q -> G f ds cs Q'
def SEm (f : SE) : Prop := ∀ L cs (Q Q' : D -> Cells -> Prop),(∀ d c,Q d c -> Q' d c) -> f L cs Q -> f L cs Q'
theorem aB {c : CE} {f : SE} (hf : SEm f) {L : Loc} {cs : Cells} {Q Q' : Opd -> Cells -> Prop} (h : ∀ u c,Q u c -> Q' u c) (x : opd c f L cs Q) : opd c f L cs Q' := by
  unfold opd at x ⊢
  generalize c.peeks = o at x ⊢
  cases o with
  | none => exact hf _ _ _ _ (fun d c q => h _ c q) x
  | some i =>
    simp only at x ⊢
    generalize L[i]? = e at x ⊢
    cases e with
    | none => exact x
    | some s =>
      cases s with
      | no => exact x
      | val d => exact h _ _ x
      | own d => exact h _ _ x
mutual
theorem b4 : ∀ (t : Tg) (d : D) (L : Loc) (Q Q' : Loc -> Prop),(∀ L,Q L -> Q' L) -> asg t d L Q -> asg t d L Q'
  | .nm i,d,L,Q,Q',h,x => h _ x
  | .tp ts,.tup ds,L,Q,Q',h,x => by
    unfold asg at x ⊢
    exact iP ts ds L Q Q' h x
  | .tp ts,.lst ds,L,Q,Q',h,x => by
    unfold asg at x ⊢
    exact iP ts ds L Q Q' h x
  | .tp _,.non,_,_,_,_,x | .tp _,.bl _,_,_,_,_,x | .tp _,.int _,_,_,_,_,x | .tp _,.str _,_,_,_,_,x | .tp _,.dct _,_,_,_,_,x | .tp _,.dctT _,_,_,_,_,x | .tp _,.ref _,_,_,_,_,x => by
    unfold asg at x
    exact x.elim
theorem iP : ∀ (t : Tgs) (d : List D) (L : Loc) (Q Q' : Loc -> Prop),(∀ L,Q L -> Q' L) -> asgs t d L Q -> asgs t d L Q'
  | .nil,[],L,Q,Q',h,x => h _ x
  | .cons t r,d :: ds,L,Q,Q',h,x => by
    unfold asgs at x ⊢
    exact b4 t d L _ _ (fun L1 q => iP r ds L1 Q Q' h q) x
  | .nil,_ :: _,_,_,_,_,x => by unfold asgs at x; exact x.elim
  | .cons _ _,[],_,_,_,_,x => by unfold asgs at x; exact x.elim
end
theorem bI {own : List Nat} {g : Tg} {t : Option SE} {e : SE} {st : Loc -> Cells -> Prop} (ht : ∀ f,t = some f -> SEm f) (he : SEm e) : ∀ (xs : List D) (L : Loc) (cs : Cells) (Q Q' : List D -> Cells -> Prop),(∀ d c,Q d c -> Q' d c) ->
    compW own g t e st xs L cs Q -> compW own g t e st xs L cs Q'
  | [],L,cs,Q,Q',h,x => h _ _ x
  | x :: xs,L,cs,Q,Q',h,z => by
    unfold compW at z ⊢
    refine b4 g x _ _ _ (fun L1 q => ?_) z
    cases t with
    | none => exact he _ _ _ _ (fun y cs2 w => ⟨w.1,bI ht he xs L cs2 _ _ (fun ys c q => h _ c q) w.2⟩) q
    | some f =>
      refine ht f rfl _ _ _ _ (fun d cs1 w => aC (fun b u => ?_) w) q
      cases b with
      | true => exact he _ _ _ _ (fun y cs2 w => ⟨w.1,bI ht he xs L cs2 _ _ (fun ys c q => h _ c q) w.2⟩) u
      | false => exact ⟨u.1,bI ht he xs L cs1 _ _ h u.2⟩
def SIm (f : SI) : Prop := ∀ L cs (Q Q' : List D -> (Loc -> Cells -> Prop) -> Cells -> Prop),(∀ d s c,Q d s c -> Q' d s c) -> f L cs Q -> f L cs Q'
section
variable {G : SF} {con : Str -> Option D}
mutual
theorem aA (hG : SFm G) : ∀ c : CE,SEm (wpE G con c)
  | .non,L,cs,Q,Q',h,x => h _ _ x
  | .bl b,L,cs,Q,Q',h,x => h _ _ x
  | .int b,L,cs,Q,Q',h,x => h _ _ x
  | .str b,L,cs,Q,Q',h,x => h _ _ x
  | .var i,L,cs,Q,Q',h,x => by
    unfold wpE at x ⊢
    split at x
    · exact h _ _ x
    · exact x.elim
  | .peek i,L,cs,Q,Q',h,x => by
    unfold wpE at x ⊢
    split at x
    · exact h _ _ x
    · exact x.elim
  | .glob i,L,cs,Q,Q',h,x => by
    unfold wpE at x ⊢
    split at x
    · exact h _ _ x
    · exact x.elim
  | .bin o a b,L,cs,Q,Q',h,x => by
    unfold wpE at x ⊢
    exact aB (aA hG a) (fun u c q => aB (aA hG b) (fun v c q => aC (fun z q => h _ _ q) q) q) x
  | .isi t a,L,cs,Q,Q',h,x => by
    unfold wpE at x ⊢
    refine aA hG a _ _ _ _ (fun d c q => ?_) x
    cases e : isiV t d with
    | none => rw [e] at q; exact q.elim
    | some b => rw [e] at q; exact h _ _ q
  | .fld o c f,L,cs,Q,Q',h,x => by
    unfold wpE at x ⊢
    refine aA hG o _ _ _ _ (fun d c2 q => ?_) x
    cases d with
    | ref n =>
      simp only at q ⊢
      split at q
      · rename_i c' fs _
        refine ⟨q.1,?_⟩
        have q2 := q.2
        split at q2
        · exact h _ _ q2
        · exact q2.elim
      · exact q.elim
    | _ => exact q
  | .meth o c m qn as,L,cs,Q,Q',h,x => by
    unfold wpE at x ⊢
    refine aA hG o _ _ _ _ (fun d c2 q => ?_) x
    cases d with
    | ref n =>
      simp only at q ⊢
      split at q
      · exact ⟨q.1,aI hG as _ _ _ _ (fun ds c3 w => hG _ _ _ _ _ h w) q.2⟩
      · exact q.elim
    | _ => exact q
  | .new c qn as,L,cs,Q,Q',h,x => by
    unfold wpE at x ⊢
    exact aI hG as _ _ _ _ (fun ds c3 w => hG _ _ _ _ _ (fun d c4 q => ⟨q.1,h _ _ q.2⟩) w) x
  | .sset e,L,cs,Q,Q',h,x => by
    unfold wpE at x ⊢
    exact aB (aA hG e) (fun u c q => aC (fun z q => h _ _ q) q) x
  | .ddis ks es,L,cs,Q,Q',h,x => by
    unfold wpE at x ⊢
    exact aI hG es _ _ _ _ (fun ds c q => h _ _ q) x
  | .te0 e,L,cs,Q,Q',h,x => by
    unfold wpE at x ⊢
    refine aB (aA hG e) (fun u c q => ?_) x
    split at q
    · exact h _ _ q
    · exact q.elim
  | .nen e,L,cs,Q,Q',h,x => by
    unfold wpE at x ⊢
    refine aB (aA hG e) (fun u c q => ?_) x
    split at q
    · exact h _ _ q
    · exact q.elim
  | .trv e,L,cs,Q,Q',h,x => by
    unfold wpE at x ⊢
    refine aA hG e L cs _ _ (fun d cs1 q => ?_) x
    cases d with
    | tup xs => exact h _ _ q
    | _ => exact q.elim
  | .rev e,L,cs,Q,Q',h,x => by
    unfold wpE at x ⊢
    exact aB (aA hG e) (fun u c q => aC (fun z q => h _ _ q) q) x
  | .trg t lo hi,L,cs,Q,Q',h,x => by
    unfold wpE at x ⊢
    refine eN hG lo _ _ _ _ (fun l c q => aA hG hi _ _ _ _ (fun d c2 q => ?_) q) x
    cases d <;> first
      | exact q
      | (refine ⟨q.1,?_⟩
         have q2 := q.2
         cases t <;> exact h _ _ q2)
  | .lend f o,L,cs,Q,Q',h,x => by
    unfold wpE at x ⊢
    refine aB (aA hG o) (fun u c q => ?_) x
    cases u with
    | v d => exact q
    | o i d =>
      obtain ⟨ns,e,q⟩ := q
      exact ⟨ns,e,hG _ _ _ _ _ (fun r c2 ⟨q1,q2,q3⟩ => ⟨q1,q2,h _ _ q3⟩) q⟩
  | .ptp o,L,cs,Q,Q',h,x => by
    unfold wpE at x ⊢
    refine aB (aA hG o) (fun u c q => ?_) x
    split at q
    · exact h _ _ q
    · exact q.elim
  | .pdis es,L,cs,Q,Q',h,x => by
    unfold wpE at x ⊢
    exact aI hG es _ _ _ _ (fun ds c q => ⟨q.1,h _ _ q.2⟩) x
  | .tidx o y,L,cs,Q,Q',h,x => by
    unfold wpE at x ⊢
    exact aB (aA hG o) (fun u c q => ⟨q.1,aA hG y _ _ _ _ (fun d c2 q => aC (fun z q => h _ _ q) q) q.2⟩) x
  | .lcnt o y,L,cs,Q,Q',h,x => by
    unfold wpE at x ⊢
    exact aB (aA hG o) (fun u c q => ⟨q.1,aA hG y _ _ _ _ (fun d c2 q => aC (fun z q => h _ _ q) q) q.2⟩) x
  | .vtp o,L,cs,Q,Q',h,x => by
    unfold wpE at x ⊢
    exact aA hG o _ _ _ _ (fun d c q => aC (fun z q => h _ _ q) q) x
  | .dgetn a b e,L,cs,Q,Q',h,x => by
    unfold wpE at x ⊢
    refine aB (aA hG a) (fun u c q => ⟨q.1,aA hG b _ _ _ _ (fun kd c q => aA hG e _ _ _ _ (fun z c q => ?_) q) q.2⟩) x
    split at q
    · exact h _ _ q
    · exact q.elim
  | .sm m o y,L,cs,Q,Q',h,x => by
    unfold wpE at x ⊢
    exact aA hG o _ _ _ _ (fun d c q => ⟨q.1,aB (aA hG y) (fun u c2 q => aC (fun z q => h _ _ q) q) q.2⟩) x
  | .six o y,L,cs,Q,Q',h,x => by
    unfold wpE at x ⊢
    exact aA hG o _ _ _ _ (fun d c q => aA hG y _ _ _ _ (fun u c2 q => aC (fun z q => h _ _ q) q) q) x
  | .sin n o y,L,cs,Q,Q',h,x => by
    unfold wpE at x ⊢
    exact aA hG o _ _ _ _ (fun d c q => aA hG y _ _ _ _ (fun u c2 q => aC (fun z q => h _ _ q) q) q) x
  | .kix k o,L,cs,Q,Q',h,x => by
    unfold wpE at x ⊢
    exact aA hG o _ _ _ _ (fun d c q => aC (fun z q => h _ _ q) q) x
  | .kget k o y,L,cs,Q,Q',h,x => by
    unfold wpE at x ⊢
    exact aA hG o _ _ _ _ (fun d c q => aA hG y _ _ _ _ (fun u c2 q => aC (fun z q => h _ _ q) q) q) x
  | .kin n k o,L,cs,Q,Q',h,x => by
    unfold wpE at x ⊢
    exact aA hG o _ _ _ _ (fun d c q => aC (fun z q => h _ _ q) q) x
  | .kmem n k o,L,cs,Q,Q',h,x => by
    unfold wpE at x ⊢
    exact aA hG o _ _ _ _ (fun d c q => aC (fun z q => h _ _ q) q) x
  | .maxd o,L,cs,Q,Q',h,x => by
    unfold wpE at x ⊢
    exact aB (aA hG o) (fun u c q => aC (fun z q => h _ _ q) q) x
  | .bits o,L,cs,Q,Q',h,x => by
    unfold wpE at x ⊢
    exact aA hG o _ _ _ _ (fun d c2 q => aC (fun z q => h _ _ q) q) x
  | .oth y e,L,cs,Q,Q',h,x => by
    unfold wpE at x ⊢
    refine aA hG e _ _ _ _ (fun d c q => ?_) x
    split at q
    · exact h _ _ q
    · exact q.elim
  | .dget1 o k,L,cs,Q,Q',h,x => by
    unfold wpE at x ⊢
    refine aB (aA hG o) (fun u c q => ⟨q.1,aA hG k _ _ _ _ (fun d c2 q => ?_) q.2⟩) x
    split at q
    · exact h _ _ q
    · exact q.elim
  | .lidx o y,L,cs,Q,Q',h,x => by
    unfold wpE at x ⊢
    exact aB (aA hG o) (fun u c q => ⟨q.1,aA hG y _ _ _ _ (fun d c2 q => aC (fun z q => h _ _ q) q) q.2⟩) x
  | .sdef o k e,L,cs,Q,Q',h,x => by
    unfold wpE at x ⊢
    refine aA hG o _ _ _ _ (fun d c q => ?_) x
    cases d with
    | ref n =>
      refine ⟨q.1,aA hG k _ _ _ _ (fun kd c2 q => aA hG e _ _ _ _ (fun z c3 q => ?_) q) q.2⟩
      split at q
      · rename_i kvs kk e1 e2
        refine ⟨q.1,?_⟩
        have q2 := q.2
        cases e3 : dGet kvs kk with
        | none => rw [e3] at q2; exact h _ _ q2
        | some u => rw [e3] at q2; exact h _ _ q2
      · exact q.elim
    | _ => exact q
  | .dnew t,L,cs,Q,Q',h,x => by
    unfold wpE at x ⊢
    cases t <;> exact h _ _ x
  | .dget a b e,L,cs,Q,Q',h,x => by
    unfold wpE at x ⊢
    refine aB (aA hG a) (fun u c q => ⟨q.1,aA hG b _ _ _ _ (fun kd c q => aA hG e _ _ _ _ (fun z c q => ?_) q) q.2⟩) x
    split at q
    · exact h _ _ q
    · exact q.elim
  | .neg a,L,cs,Q,Q',h,x => by
    unfold wpE at x ⊢
    refine aA hG a _ _ _ _ (fun d c q => ?_) x
    cases d <;> first | exact h _ _ q | exact q
  | .and a b,L,cs,Q,Q',h,x => by
    unfold wpE at x ⊢
    refine aA hG a _ _ _ _ (fun d c q => aC (fun z q => ?_) q) x
    cases z with
    | true => exact aA hG b _ _ _ _ h q
    | false => exact h _ _ q
  | .or a b,L,cs,Q,Q',h,x => by
    unfold wpE at x ⊢
    refine aA hG a _ _ _ _ (fun d c q => aC (fun z q => ?_) q) x
    cases z with
    | false => exact aA hG b _ _ _ _ h q
    | true => exact h _ _ q
  | .not a,L,cs,Q,Q',h,x => by
    unfold wpE at x ⊢
    exact aB (aA hG a) (fun u c q => aC (fun z q => h _ _ q) q) x
  | .ife t a b,L,cs,Q,Q',h,x => by
    unfold wpE at x ⊢
    refine aB (aA hG t) (fun u c q => aC (fun z q => ?_) q) x
    cases z with
    | true => exact aA hG a _ _ _ _ h q
    | false => exact aA hG b _ _ _ _ h q
  | .cmp o a b,L,cs,Q,Q',h,x => by
    unfold wpE at x ⊢
    exact aB (aA hG a) (fun u c q => aB (aA hG b) (fun v c q => aC (fun z q => h _ _ q) q) q) x
  | .chain o p a b d,L,cs,Q,Q',h,x => by
    unfold wpE at x ⊢
    refine aA hG a _ _ _ _ (fun u c q => aA hG b _ _ _ _ (fun v c q => aC (fun z q => ?_) q) q) x
    cases z with
    | true => exact aA hG d _ _ _ _ (fun v c q => aC (fun z q => h _ _ q) q) q
    | false => exact h _ _ q
  | .call f as,L,cs,Q,Q',h,x => by
    unfold wpE at x ⊢
    exact aI hG as _ _ _ _ (fun ds c q => hG _ _ _ _ _ h q) x
  | .bi f as,L,cs,Q,Q',h,x => by
    unfold wpE at x ⊢
    exact iE hG as _ _ _ _ (fun ds c q => aC (fun z q => h _ _ q) q) x
  | .ix a b,L,cs,Q,Q',h,x => by
    unfold wpE at x ⊢
    exact aB (aA hG a) (fun u c q => aA hG b _ _ _ _ (fun v c q => aC (fun z q => h _ _ q) q) q) x
  | .sl a b d,L,cs,Q,Q',h,x => by
    unfold wpE at x ⊢
    exact aB (aA hG a) (fun u c q => eN hG b _ _ _ _ (fun v c q => eN hG d _ _ _ _ (fun v c q => aC (fun z q => h _ _ q) q) q) q) x
  | .tup es,L,cs,Q,Q',h,x => by
    unfold wpE at x ⊢
    exact aI hG es _ _ _ _ (fun ds c q => ⟨q.1,h _ _ q.2⟩) x
  | .lst es,L,cs,Q,Q',h,x => by
    unfold wpE at x ⊢
    exact aI hG es _ _ _ _ (fun ds c q => ⟨q.1,h _ _ q.2⟩) x
  | .box e,L,cs,Q,Q',h,x => by
    unfold wpE at x ⊢
    refine aA hG e _ _ _ _ (fun d c q => ?_) x
    cases d <;> first | exact h _ _ q | exact q
  | .mth o m as,L,cs,Q,Q',h,x => by
    unfold wpE at x ⊢
    refine aA hG o _ _ _ _ (fun d c q => ?_) x
    cases d <;> first | exact ⟨q.1,aI hG as _ _ _ _ (fun ds c2 q => by
      split at q
      · exact aC (fun z q => h _ _ q) q
      · exact q.elim) q.2⟩ | exact q
  | .comp own g src t e,L,cs,Q,Q',h,x => by
    unfold wpE at x ⊢
    refine bV hG src _ _ _ _ (fun xs st c q => ⟨q.1,bI (fun f hf => ?_) (aA hG e) _ _ _ _ _ (fun ds c q => h _ _ q) q.2⟩) x
    match t,hf with
    | .yes a,hf =>
      unfold wpT at hf
      cases hf
      exact aA hG a
theorem aI (hG : SFm G) : ∀ (c : CEs) L cs (Q Q' : List D -> Cells -> Prop),(∀ d c,Q d c -> Q' d c) -> wpEs G con c L cs Q -> wpEs G con c L cs Q'
  | .nil,L,cs,Q,Q',h,x => h _ _ x
  | .cons a r,L,cs,Q,Q',h,x => by
    unfold wpEs at x ⊢
    exact aA hG a _ _ _ _ (fun d c q => aI hG r _ _ _ _ (fun ds c q => h _ _ q) q) x
theorem iE (hG : SFm G) : ∀ (c : CEs) L cs (Q Q' : List Opd -> Cells -> Prop),(∀ d c,Q d c -> Q' d c) -> wpOs G con c L cs Q -> wpOs G con c L cs Q'
  | .nil,L,cs,Q,Q',h,x => h _ _ x
  | .cons a r,L,cs,Q,Q',h,x => by
    unfold wpOs at x ⊢
    exact aB (aA hG a) (fun d c q => iE hG r _ _ _ _ (fun ds c q => h _ _ q) q) x
theorem eN (hG : SFm G) : ∀ (c : CO) L cs (Q Q' : Option Int -> Cells -> Prop),(∀ d c,Q d c -> Q' d c) -> wpC G con c L cs Q -> wpC G con c L cs Q'
  | .no,L,cs,Q,Q',h,x => h _ _ x
  | .yes a,L,cs,Q,Q',h,x => by
    unfold wpC at x ⊢
    refine aA hG a _ _ _ _ (fun d c q => ?_) x
    cases d <;> first | exact h _ _ q | exact q
theorem bV (hG : SFm G) : ∀ c : Src,SIm (wpI G con c)
  | .val e,L,cs,Q,Q',h,x => by
    unfold wpI at x ⊢
    exact aB (aA hG e) (fun d c q => aC (fun z q => h _ _ _ q) q) x
  | .rng1 e,L,cs,Q,Q',h,x => by
    unfold wpI at x ⊢
    refine aA hG e _ _ _ _ (fun d c q => ?_) x
    cases d <;> first | exact ⟨q.1,h _ _ _ q.2⟩ | exact q
  | .rng2 e f,L,cs,Q,Q',h,x => by
    unfold wpI at x ⊢
    refine aA hG e _ _ _ _ (fun d c q => aA hG f _ _ _ _ (fun d2 c q => ?_) q) x
    cases d <;> cases d2 <;> first | exact ⟨q.1,q.2.1,h _ _ _ q.2.2⟩ | exact q
  | .enum e,L,cs,Q,Q',h,x => by
    unfold wpI at x ⊢
    exact aB (aA hG e) (fun d c q => aC (fun z q => h _ _ _ q) q) x
  | .zip2 e f,L,cs,Q,Q',h,x => by
    unfold wpI at x ⊢
    exact aB (aA hG e) (fun d c q => aB (aA hG f) (fun d c q => aC (fun z q => aC (fun z q => h _ _ _ q) q) q) q) x
  | .zip3 e f g,L,cs,Q,Q',h,x => by
    unfold wpI at x ⊢
    exact aB (aA hG e) (fun d c q => aB (aA hG f) (fun d c q => aB (aA hG g) (fun d c q => aC (fun z q => aC (fun z q => aC (fun z q => h _ _ _ q) q) q) q) q) q) x
  | .chars e,L,cs,Q,Q',h,x => by
    unfold wpI at x ⊢
    refine aA hG e _ _ _ _ (fun d c q => ?_) x
    cases d <;> first | exact h _ _ _ q | exact q
end
end
structure En.le (k k' : En) : Prop where
  nx : ∀ L c,k.nx L c -> k'.nx L c
  rt : ∀ d c,k.rt d c -> k'.rt d c
  bk : ∀ L c,k.bk L c -> k'.bk L c
  ct : ∀ L c,k.ct L c -> k'.ct L c
def SSm (f : Loc -> Cells -> En -> Prop) : Prop := ∀ L cs k k',En.le k k' -> f L cs k -> f L cs k'
theorem bFa {p : Pl} {L : Loc} {cs : Cells} {f : List D -> Vo (List D × D)} {Q Q' : Loc -> Cells -> Prop} (h : ∀ L c,Q L c -> Q' L c) (x : chg p L cs f Q) : chg p L cs f Q' := by
  unfold chg at x ⊢
  cases p with
  | slot i =>
    simp only at x ⊢
    split at x
    · exact aC (fun z q => h _ _ q) x
    · exact x.elim
  | cell n =>
    simp only at x ⊢
    split at x
    · exact aC (fun z q => h _ _ q) x
    · exact x.elim
theorem j0 {p : Pl} {L : Loc} {cs : Cells} {f : D -> Vo D} {Q Q' : Loc -> Cells -> Prop} (h : ∀ L c,Q L c -> Q' L c) (x : sto p L cs f Q) : sto p L cs f Q' := by
  unfold sto at x ⊢
  cases p with
  | slot i =>
    simp only at x ⊢
    split at x
    · exact aC (fun z q => ⟨q.1,h _ _ q.2⟩) x
    · exact x.elim
  | cell n =>
    simp only at x ⊢
    split at x
    · rename_i c e
      cases e2 : c.d with
      | none =>
        rw [e2] at x
        exact x.elim
      | some d =>
        rw [e2] at x
        refine aC (fun z q => ?_) x
        split at q
        · exact h _ _ q
        · exact q.elim
    · exact x.elim
theorem hR {c : CE} {f : SE} (hf : SEm f) {L : Loc} {cs : Cells} {Q Q' : Pl -> Cells -> Prop} (h : ∀ u c,Q u c -> Q' u c) (x : plc c f L cs Q) : plc c f L cs Q' := by
  unfold plc at x ⊢
  refine aB hf (fun u c q => ?_) x
  match u,q with
  | .o i _,q => exact h _ _ q
  | .v (.ref n),q => exact h _ _ q
theorem i7 {g : Tg} {body : Loc -> Cells -> En -> Prop} (hb : SSm body) {st : Loc -> Cells -> Prop} {k k' : En} (h : En.le k k') : ∀ (xs : List D) (L : Loc) (cs : Cells),forW g body st k xs L cs -> forW g body st k' xs L cs
  | [],L,cs,x => h.nx _ _ x
  | x :: xs,L,cs,z => by
    unfold forW at z ⊢
    refine b4 g x _ _ _ (fun L1 q => ?_) z
    refine hb _ _ _ _ ?_ q
    exact ⟨fun L2 c2 w => ⟨w.1,i7 hb h xs L2 c2 w.2⟩,h.rt,h.nx,fun L2 c2 w => ⟨w.1,i7 hb h xs L2 c2 w.2⟩⟩
section
variable {G : SF} {con : Str -> Option D}
mutual
theorem wpS_mono (hG : SFm G) : ∀ s : CS,SSm (wpS G con s)
  | .set g e,L,cs,k,k',h,x => by
    unfold wpS at x ⊢
    exact aA hG e _ _ _ _ (fun d c q => b4 g d _ _ _ (fun L q => h.nx _ _ q) q) x
  | .pops j o,L,cs,k,k',h,x => by
    unfold wpS at x ⊢
    refine aB (aA hG o) (fun u c q => ?_) x
    cases u with
    | v d => exact q
    | o i d =>
      cases d with
      | lst xs =>
        simp only at q ⊢
        split
        · rename_i y e
          rw [e] at q
          exact h.nx _ _ q
        · rename_i e
          rw [e] at q
          exact q
      | _ => exact q
  | .own i e,L,cs,k,k',h,x => by
    unfold wpS at x ⊢
    exact aA hG e _ _ _ _ (fun d c q => ⟨q.1,h.nx _ _ q.2⟩) x
  | .parc i j a b,L,cs,k,k',h,x => by
    unfold wpS at x ⊢
    exact aA hG a _ _ _ _ (fun d c q => aA hG b _ _ _ _ (fun e c q => ⟨q.1,h.nx _ _ q.2⟩) q) x
  | .parv i j a b,L,cs,k,k',h,x => by
    unfold wpS at x ⊢
    exact aA hG a _ _ _ _ (fun d c q => aA hG b _ _ _ _ (fun e c q => ⟨q.1,h.nx _ _ q.2⟩) q) x
  | .paro i j a b,L,cs,k,k',h,x => by
    unfold wpS at x ⊢
    exact aA hG a _ _ _ _ (fun d c q => ⟨q.1,aA hG b _ _ _ _ (fun e c q => ⟨q.1,h.nx _ _ q.2⟩) q.2⟩) x
  | .par i j a b,L,cs,k,k',h,x => by
    unfold wpS at x ⊢
    exact aA hG a _ _ _ _ (fun d c q => aA hG b _ _ _ _ (fun e c q => h.nx _ _ q) q) x
  | .par3 i j l a b c,L,cs,k,k',h,x => by
    unfold wpS at x ⊢
    exact aA hG a _ _ _ _ (fun d c' q => aA hG b _ _ _ _ (fun e c' q => aA hG c _ _ _ _ (fun f c' q => h.nx _ _ q) q) q) x
  | .fr is s,L,cs,k,k',h,x => by
    unfold wpS at x ⊢
    exact wpS_mono hG s _ _ _ _ h x
  | .setix o i e,L,cs,k,k',h,x => by
    unfold wpS at x ⊢
    exact aA hG e _ _ _ _ (fun d c q => hR (aA hG o) (fun p c q => aA hG i _ _ _ _ (fun j c q => j0 h.nx q) q) q) x
  | .aug i o e,L,cs,k,k',h,x => by
    unfold wpS at x ⊢
    split at x
    · refine aA hG e _ _ _ _ (fun d c q => ?_) x
      cases o <;> cases d <;> first | exact h.nx _ _ q | exact q
    · exact x.elim
  | .mth o m as,L,cs,k,k',h,x => by
    unfold wpS at x ⊢
    exact hR (aA hG o) (fun p c q => ⟨q.1,aI hG as _ _ _ _ (fun ds c2 q => bFa h.nx q) q.2⟩) x
  | .exp e,L,cs,k,k',h,x => by
    unfold wpS at x ⊢
    exact aA hG e _ _ _ _ (fun d c q => h.nx _ _ q) x
  | .ret e,L,cs,k,k',h,x => by
    unfold wpS at x ⊢
    exact aA hG e _ _ _ _ (fun d c q => h.rt _ _ q) x
  | .retn,L,cs,k,k',h,x => h.rt _ _ x
  | .ifs t a b,L,cs,k,k',h,x => by
    unfold wpS at x ⊢
    refine aB (aA hG t) (fun d c q => aC (fun z q => ?_) q) x
    cases z with
    | true => exact cK hG a _ _ _ _ h q
    | false => exact cK hG b _ _ _ _ h q
  | .whl t b,L,cs,k,k',h,x => by
    unfold wpS at x ⊢
    obtain ⟨W,h0,hs⟩ := x
    refine ⟨W,h0,fun m L cs w => aB (aA hG t) (fun d c q => aC (fun z q => ?_) q) (hs m L cs w)⟩
    cases z with
    | true =>
      refine cK hG b _ _ _ _ ?_ q
      exact ⟨fun _ _ z => z,h.rt,h.nx,fun _ _ z => z⟩
    | false => exact h.nx _ _ q
  | .for_ g src b,L,cs,k,k',h,x => by
    unfold wpS at x ⊢
    exact bV hG src _ _ _ _ (fun xs st c q => i7 (cK hG b) h _ _ _ q) x
  | .setfld o c f e,L,cs,k,k',h,x => by
    unfold wpS at x ⊢
    refine aA hG e _ _ _ _ (fun d c1 q => aA hG o _ _ _ _ (fun y c2 q => ?_) q) x
    cases y with
    | ref n =>
      simp only at q ⊢
      split at q
      · exact ⟨q.1,q.2.1,h.nx _ _ q.2.2⟩
      · exact q.elim
    | _ => exact q
  | .swp o i o2 i2 a b,L,cs,k,k',h,x => by
    unfold wpS at x ⊢
    exact aA hG a _ _ _ _ (fun d c q => aA hG b _ _ _ _ (fun e c q => hR (aA hG o) (fun p c q => aA hG i _ _ _ _ (fun j c q => j0 (fun L5 c5 q => hR (aA hG o2) (fun p c q => aA hG i2 _ _ _ _ (fun j c q => j0 h.nx q) q) q) q) q) q) q) x
  | .pass,L,cs,k,k',h,x => h.nx _ _ x
  | .brk,L,cs,k,k',h,x => h.bk _ _ x
  | .cnt,L,cs,k,k',h,x => h.ct _ _ x
  | .rse,L,cs,k,k',h,x => x.elim
theorem cK (hG : SFm G) : ∀ s : CSs,SSm (wpSs G con s)
  | .nil,L,cs,k,k',h,x => h.nx _ _ x
  | .cons s r,L,cs,k,k',h,x => by
    unfold wpSs at x ⊢
    refine wpS_mono hG s _ _ _ _ ?_ x
    exact ⟨fun L c q => cK hG r _ _ _ _ h q,h.rt,h.bk,h.ct⟩
end
end
theorem bG (T : Tab) : ∀ k,SFm (Gf T k)
  | 0,_,_,_,_,_,_,x => x
  | k + 1,f,ds,cs,Q,Q',h,x => by
    unfold Gf at x ⊢
    split at x
    · exact x.elim
    · refine ⟨x.1,cK (bG T k) _ _ _ _ _ ?_ x.2⟩
      exact ⟨fun L c ⟨c2,a,q⟩ => ⟨c2,a,h _ _ q⟩,fun d c ⟨c2,a,q⟩ => ⟨c2,a,h _ _ q⟩,fun _ _ z => z,fun _ _ z => z⟩
end Sp
set_option autoImplicit true
namespace Sp
open PySem PySem.Spec PyProof.Rows L2
section
variable {K : PySem.W.Frag} {p p' : Pm} {H H' : Hp}
theorem dP {d : D} {k : Key} {v : V} (e : keyK d = some k) (h : Rep K p H v d) : v = kV k := by
  cases d with
  | int i => cases e; cases h; rfl
  | str x => cases e; cases h; rfl
  | _ => cases e
theorem mP : ∀ {ds : List D} {ks : List Key} {vs : List V},keysK ds = some ks -> Reps K p H vs ds -> vs = ks.map kV
  | [],_,_,e,h => by
    cases e
    cases h
    rfl
  | d :: ds,ks,_,e,.cons h r => by
    unfold keysK at e
    split at e
    · rename_i a b h1 h2
      cases e
      rw [dP h1 h,mP h2 r]
      rfl
    · cases e
theorem jC {d : D} {ks : List Key} {v : V} (e : keyT d = some ks) (h : Rep K p H v d) : ∃ b,v = .ref b /\ H b = some (.tup (ks.map kV)) := by
  cases d with
  | tup ds =>
    obtain ⟨b,vs,rfl,hb,r⟩ := h.tupH
    rw [mP (show keysK ds = some ks from e) r] at hb
    exact ⟨b,rfl,hb⟩
  | _ => cases e
inductive RepX {κ : Type} (K : PySem.W.Frag) (p : Pm) (H : Hp) : List (κ × V) -> List (κ × D) -> Prop
  | nil : RepX K p H [] []
  | cons {k : κ} {v : V} {vs : List (κ × V)} {d : D} {ds : List (κ × D)} : Rep K p H v d -> RepX K p H vs ds -> RepX K p H ((k,v) :: vs) ((k,d) :: ds)
theorem RepK.x : ∀ {vs : List (Key × V)} {ds : List (Key × D)},RepK K p H vs ds -> RepX K p H vs ds
  | _,_,.nil => .nil
  | _,_,.cons h r => .cons h (RepK.x r)
theorem RepT.x : ∀ {vs : List (List Key × V)} {ds : List (List Key × D)},RepT K p H vs ds -> RepX K p H vs ds
  | _,_,.nil => .nil
  | _,_,.cons h r => .cons h (RepT.x r)
theorem RepX.k : ∀ {vs : List (Key × V)} {ds : List (Key × D)},RepX K p H vs ds -> RepK K p H vs ds
  | _,_,.nil => .nil
  | _,_,.cons h r => .cons h (RepX.k r)
theorem RepX.t : ∀ {vs : List (List Key × V)} {ds : List (List Key × D)},RepX K p H vs ds -> RepT K p H vs ds
  | _,_,.nil => .nil
  | _,_,.cons h r => .cons h (RepX.t r)
section
variable {κ : Type}
theorem RepX.len : ∀ {vs : List (κ × V)} {ds : List (κ × D)},RepX K p H vs ds -> vs.length = ds.length
  | _,_,.nil => rfl
  | _,_,.cons h r => by rw [List.length_cons,List.length_cons,RepX.len r]
theorem RepX.keys : ∀ {vs : List (κ × V)} {ds : List (κ × D)},RepX K p H vs ds -> vs.map (·.1) = ds.map (·.1)
  | _,_,.nil => rfl
  | _,_,.cons h r => by rw [List.map_cons,List.map_cons,RepX.keys r]
theorem RepX.app : ∀ {vs ws : List (κ × V)} {ds es : List (κ × D)},RepX K p H vs ds -> RepX K p H ws es -> RepX K p H (vs ++ ws) (ds ++ es)
  | _,_,_,_,.nil,s => s
  | _,_,_,_,.cons h r,s => .cons h (RepX.app r s)
variable [DecidableEq κ]
def RelD (K : PySem.W.Frag) (p : Pm) (H : Hp) : Option V -> Option D -> Prop
  | none,none => True
  | some v,some d => Rep K p H v d
  | _,_ => False
theorem RelD.isSome {o : Option V} {u : Option D} (h : RelD K p H o u) : o.isSome = u.isSome := by
  cases o <;> cases u <;> first | rfl | exact h.elim
theorem RelD.of {o : Option V} {d : D} (h : RelD K p H o (some d)) : ∃ v,o = some v /\ Rep K p H v d := by
  cases o with
  | none => exact h.elim
  | some v => exact ⟨v,rfl,h⟩
theorem RelD.getD {o : Option V} {u : Option D} {v : V} {d : D} (h : RelD K p H o u) (r : Rep K p H v d) : Rep K p H (o.getD v) (u.getD d) := by
  cases o <;> cases u <;> first | exact r | exact h | exact h.elim
theorem RepX.get (k : κ) : ∀ {vs : List (κ × V)} {ds : List (κ × D)},RepX K p H vs ds -> RelD K p H (valV vs k) (dGet ds k)
  | _,_,.nil => trivial
  | _,_,.cons (k := j) h r => by
    unfold valV dGet
    rw [List.find?_cons,List.find?_cons]
    by_cases e : j = k
    · simp only [e,decide_true]
      exact h
    · simp only [e,decide_false]
      exact RepX.get k r
theorem RepX.any (k : κ) : ∀ {vs : List (κ × V)} {ds : List (κ × D)},RepX K p H vs ds -> (vs.any fun kv => decide (kv.1 = k)) = ds.any fun kv => decide (kv.1 = k)
  | _,_,.nil => rfl
  | _,_,.cons h r => by rw [List.any_cons,List.any_cons,RepX.any k r]
theorem RepX.repl (k : κ) {y : V} {z : D} (hy : Rep K p H y z) : ∀ {vs : List (κ × V)} {ds : List (κ × D)},RepX K p H vs ds -> RepX K p H (vs.map fun kv => if kv.1 = k then (kv.1,y) else kv) (ds.map fun kv => if kv.1 = k then (kv.1,z) else kv)
  | _,_,.nil => .nil
  | _,_,.cons (k := j) h r => by
    rw [List.map_cons,List.map_cons]
    by_cases e : j = k
    · rw [if_pos e,if_pos e]
      exact .cons hy (RepX.repl k hy r)
    · rw [if_neg e,if_neg e]
      exact .cons h (RepX.repl k hy r)
theorem RepX.put (k : κ) {y : V} {z : D} (hy : Rep K p H y z) {vs : List (κ × V)} {ds : List (κ × D)} (r : RepX K p H vs ds) : RepX K p H (putK vs k y) (dPut ds k z) := by
  unfold putK dPut
  rw [r.any k]
  split
  · exact r.repl k hy
  · exact r.app (.cons hy .nil)
def vAll (xs ps : List (κ × V)) : List (κ × V) := ps.foldl (fun a p => putK a p.1 p.2) xs
theorem RepX.all : ∀ {ps : List (κ × V)} {qs : List (κ × D)} {vs : List (κ × V)} {ds : List (κ × D)},RepX K p H vs ds -> RepX K p H ps qs -> RepX K p H (vAll vs ps) (dAll ds qs)
  | _,_,_,_,r,.nil => r
  | _,_,_,_,r,.cons h t => by
    unfold vAll dAll
    rw [List.foldl_cons,List.foldl_cons]
    exact RepX.all (r.put _ h) t
end
theorem dH {x y : V} {d e : D} {o : Option D} (hx : Rep K p H x d) (hy : Seen K p H y e) (h : dAt e d = some o) : ∃ a r,y = .ref a /\ DGet H a x r /\ RelD K p H r o := by
  cases e with
  | dct ds =>
    obtain ⟨k,hk,rfl⟩ := Option.map_eq_some_iff.mp (show (keyK d).map (dGet ds) = some o from h)
    obtain ⟨a,kvs,rfl,ha,ra⟩ := hy
    exact ⟨a,_,rfl,.inl ⟨kvs,k,ha,dP hk hx,rfl⟩,ra.x.get k⟩
  | dctT ds =>
    obtain ⟨k,hk,rfl⟩ := Option.map_eq_some_iff.mp (show (keyT d).map (dGet ds) = some o from h)
    obtain ⟨a,kvs,rfl,ha,ra⟩ := hy
    obtain ⟨b,rfl,hb⟩ := jC hk hx
    exact ⟨a,_,rfl,.inr ⟨kvs,k,b,ha,rfl,hb,rfl⟩,ra.x.get k⟩
  | _ => cases h
theorem Seen.rep {x : V} {d : D} (h : Seen K p H x d) (n : ∀ k,keyK d = some k -> True) : (keyK d).isSome = true \/ (keyT d).isSome = true -> Rep K p H x d := by
  cases d <;> first | exact fun _ => h | (intro q; rcases q with q | q <;> cases q)
theorem b0a {e d : D} {o : Option D} (h : dAt e d = some o) : (keyK d).isSome = true \/ (keyT d).isSome = true := by
  cases e with
  | dct ds =>
    obtain ⟨k,hk,_⟩ := Option.map_eq_some_iff.mp (show (keyK d).map (dGet ds) = some o from h)
    exact .inl (by rw [hk]; rfl)
  | dctT ds =>
    obtain ⟨k,hk,_⟩ := Option.map_eq_some_iff.mp (show (keyT d).map (dGet ds) = some o from h)
    exact .inr (by rw [hk]; rfl)
  | _ => cases h
theorem lI {x y : V} {d e : D} {o : Option D} (hx : Seen K p H x d) (hy : Seen K p H y e) (h : dAt e d = some o) : ∃ a r,y = .ref a /\ DGet H a x r /\ RelD K p H r o :=
  dH (hx.rep (fun _ _ => trivial) (b0a h)) hy h
theorem jX {y : V} {e : D} (hy : Seen K p H y e) (h : isDct e = true) : ∃ a,y = .ref a /\ IsD H a := by
  cases e with
  | dct ds =>
    obtain ⟨a,kvs,rfl,ha,ra⟩ := hy
    exact ⟨a,rfl,.inl ⟨kvs,ha⟩⟩
  | dctT ds =>
    obtain ⟨a,kvs,rfl,ha,ra⟩ := hy
    exact ⟨a,rfl,.inr ⟨kvs,ha⟩⟩
  | _ => cases h
theorem eZa {e k z : D} {c : Prop} (hd : isDct e = true) (h : ixV e k = some (c,z)) : dAt e k = some (some z) /\ c = True := by
  cases e with
  | dct ds =>
    have h : (match keyK k with
      | some k => opt (dGet ds k)
      | none => none) = some (c,z) := h
    cases q : keyK k with
    | none => rw [q] at h; cases h
    | some kk =>
      rw [q] at h
      simp only at h
      cases q2 : dGet ds kk with
      | none => rw [q2] at h; cases h
      | some w =>
        rw [q2] at h
        cases h
        exact ⟨by show (keyK k).map _ = _; rw [q]; exact congrArg some q2,rfl⟩
  | dctT ds =>
    have h : (match keyT k with
      | some k => opt (dGet ds k)
      | none => none) = some (c,z) := h
    cases q : keyT k with
    | none => rw [q] at h; cases h
    | some kk =>
      rw [q] at h
      simp only at h
      cases q2 : dGet ds kk with
      | none => rw [q2] at h; cases h
      | some w =>
        rw [q2] at h
        cases h
        exact ⟨by show (keyT k).map _ = _; rw [q]; exact congrArg some q2,rfl⟩
  | _ => cases hd
end
end Sp
set_option autoImplicit true
namespace L2
open PySem PySem.Spec PyProof.Rows
theorem mW {e r : Nat -> Bool} {z : Bool} : ∀ k i : Nat,Ob.lexAt e r z (i + 1) k = Ob.lexAt (fun j => e (j + 1)) (fun j => r (j + 1)) z i k
  | 0,i => rfl
  | k + 1,i => by
    rw [Ob.lexAt_succ,Ob.lexAt_succ,mW k (i + 1)]
theorem mV : ∀ ns ms : List Int,Ob.lexAt (fun j => decide (ns.getD j 0 = ms.getD j 0)) (fun j => decide (ms.getD j 0 < ns.getD j 0)) (decide (ms.length < ns.length)) 0 (min ns.length ms.length) = HT.lexLt ms ns
  | [],[] => rfl
  | [],_ :: _ => rfl
  | _ :: _,[] => rfl
  | x :: xs,y :: ys => by
    rw [HT.lexLt_cons,List.length_cons,List.length_cons,Nat.succ_min_succ,Ob.lexAt_succ]
    have h0 : (decide ((x :: xs).getD 0 0 = (y :: ys).getD 0 0)) = decide (x = y) := rfl
    rw [h0]
    by_cases h : x = y
    · rw [decide_eq_true h,if_pos rfl,if_pos h.symm,Nat.zero_add,mW _ 0,<- mV xs ys]
      simp
    · rw [decide_eq_false h,if_neg (by decide),if_neg (fun e => h e.symm)]
      rfl
def rGtT (K : PySem.W.Frag) : R2 := fun x y H Q => ∃ a b ns ms,x = .ref a /\ y = .ref b /\ SqT K H a (ns.map V.int) /\ SqT K H b (ms.map V.int) /\ Q (.bl (HT.lexLt ms ns)) H
theorem hQa {X : Cx} (hu : X.A.units < cLine) : OpR X (compareOp .Gt) (rGtT X.K) := by
  intro pins s σ H x y v u Q I rx ry h
  obtain ⟨a,b,ns,ms,rfl,rfl,ha,hb,q⟩ := h
  cases rx
  cases ry
  obtain ⟨its,r1,p1,_⟩ := I.tuple ha
  obtain ⟨its2,r2,p2,_⟩ := I.tuple hb
  have i1 : IntsAre its ns := Vals.ints r1
  have i2 : IntsAre its2 ms := Vals.ints r2
  have e1 : its.toArray.size = ns.length := by rw [List.size_toArray]; exact i1.length
  have e2 : its2.toArray.size = ms.length := by rw [List.size_toArray]; exact i2.length
  have at1 : ∀ j (h1 : j < its.toArray.size),∃ t,its.toArray[j] = .int (ns.getD j 0) t := fun j h1 => PyProof.Rows.IntsAre.int_at i1 _ _ (by simp at h1; simp [h1])
  have at2 : ∀ j (h1 : j < its2.toArray.size),∃ t,its2.toArray[j] = .int (ms.getD j 0) t := fun j h1 => PyProof.Rows.IntsAre.int_at i2 _ _ (by simp at h1; simp [h1])
  have R := Ob.RcOp.tuples_gt (A := X.A) (s := s) (e := fun j => decide (ns.getD j 0 = ms.getD j 0)) (r := fun j => decide (ms.getD j 0 < ns.getD j 0)) p1 p2 hu (fun j h1 h2 => by
    obtain ⟨t,et⟩ := at1 j h1
    obtain ⟨t',et'⟩ := at2 j h2
    rw [et,et']
    have z : (ns.getD j 0 == ms.getD j 0) = decide (ns.getD j 0 = ms.getD j 0) := by
      by_cases q : ns.getD j 0 = ms.getD j 0
      · rw [decide_eq_true q]; exact beq_iff_eq.mpr q
      · rw [decide_eq_false q]; exact beq_eq_false_iff_ne.mpr q
    rw [<- z]
    exact SeqAt.EqAt.int_int _ _ _ _) (fun j h1 h2 _ => by
    obtain ⟨t,et⟩ := at1 j h1
    obtain ⟨t',et'⟩ := at2 j h2
    rw [et,et']
    exact Ob.RcOp.gt_int _ _ _ _)
  have ez : Ob.lexAt (fun j => decide (ns.getD j 0 = ms.getD j 0)) (fun j => decide (ms.getD j 0 < ns.getD j 0)) (decide (its.toArray.size > its2.toArray.size)) 0 (min its.toArray.size its2.toArray.size) = HT.lexLt ms ns := by
    rw [e1,e2]
    exact mV ns ms
  rw [ez] at R
  have z : wpAny (model X.prog X.w) X.A (compareOp .Gt (.ref a) (.ref b)) (EP X pins σ Q) X.xe s := R X.prog X.w X.xe (EP X pins σ Q) ⟨.bl _,H,I,rfl,q⟩
  exact z
end L2
set_option autoImplicit true
namespace L2
open PySem PySem.Spec PyProof.Rows
theorem mFa (l : Addr) (items : Array Value) (n : Nat) (dd : Option Addr) (sl : Array (Option Value)) (x : Int) (u : Tok) (c0 : (decide (x < -(2 ^ 63)) || decide (x ≥ 2 ^ 63)) = false) (c1 : (items.isEmpty || x == 1) = true) :
    Meets (Builtin.«tuple.__mul__» ⟨[.ref l,.int x u],[]⟩) (fun _ R s => s.heap.get? l = some { cls := .type "tuple",dict := dd,data := .seq items n,slots := sl } /\
      R (.ok (.ret (Value.ref l))) s) :=
  .of_wp fun prog w A R s h => by
    obtain ⟨hp,g,d,tk,os⟩ := s
    obtain ⟨hl,h⟩ := h
    have f1 := AutoSeq1.idx_int
    wp_walk using wpAny_loadPart' hl
    repeat (first
      | (refine wpAny_ite_false (decide_eq_false (by rw [c0]; exact Bool.false_ne_true)) ?_; wp_walk using wpAny_loadPart' hl)
      | (refine wpAny_ite_true (decide_eq_true (by rw [c1])) ?_; wp_walk using wpAny_loadPart' hl))
    exact ⟨_,rfl,h⟩
theorem mEa (l : Addr) (items : Array Value) (n : Nat) (dd : Option Addr) (sl : Array (Option Value)) (x : Int) (u : Tok) (c0 : (decide (x < -(2 ^ 63)) || decide (x ≥ 2 ^ 63)) = false) (c1 : (items.isEmpty || x == 1) = false) (c2 : (decide (x <= 0) || items.isEmpty) = true) :
    Meets (Builtin.«tuple.__mul__» ⟨[.ref l,.int x u],[]⟩) (fun _ R s => s.heap.get? l = some { cls := .type "tuple",dict := dd,data := .seq items n,slots := sl } /\
      R (.ok (.ret (Value.ref s.heap.objs.size))) { s with heap := s.heap.push { cls := Value.type "tuple",data := Data.seq #[] },toks := s.toks }) :=
  .of_wp fun prog w A R s h => by
    obtain ⟨hp,g,d,tk,os⟩ := s
    obtain ⟨hl,h⟩ := h
    have f1 := AutoSeq1.idx_int
    wp_walk using wpAny_loadPart' hl
    repeat (first
      | (refine wpAny_ite_false (decide_eq_false (by rw [c0]; exact Bool.false_ne_true)) ?_; wp_walk using wpAny_loadPart' hl)
      | (refine wpAny_ite_false (decide_eq_false (by rw [c1]; exact Bool.false_ne_true)) ?_; wp_walk using wpAny_loadPart' hl)
      | (refine wpAny_ite_true (decide_eq_true (by rw [c2])) ?_; wp_walk using wpAny_loadPart' hl))
    exact ⟨_,rfl,h⟩
end L2
namespace Sp
open PySem PySem.Spec PyProof.Rows L2
def BOp.of : BOp -> Operator
  | .add => .Add | .sub => .Sub | .mul => .Mult | .fdiv => .FloorDiv | .fdivN => .FloorDiv | .mod => .Mod | .pow => .Pow
  | .shl => .LShift | .shr => .RShift | .band => .BitAnd | .bor => .BitOr | .bxor => .BitXor
section
variable {X : Cx}
theorem ep {pins : List (Addr × Obj)} {σ : L2.St} {H H' : Hp} {s' : Shared} {Q : VK} {u : Value} {v : V} {p : Pm} {z : D} (I : Inv X pins σ H' s') (r : RelV v u) (q : ∀ v H',Res X.K p H z v H' -> Q v H') (h : Res X.K p H z v H') : EP X pins σ Q u s' :=
  ⟨v,H',I,r,q v H' h⟩
def rB (K : PySem.W.Frag) (o : BOp) : R2 := fun x y H Q => ∃ p d e,Seen K p H x d /\ Seen K p H y e /\ binK o d e fun z => ∀ v H',Res K p H z v H' -> Q v H'
theorem Seen.int {K : PySem.W.Frag} {p : Pm} {H : Hp} {v : V} {i : Int} (h : Seen K p H v (.int i)) : v = .int i := by
  cases (show Rep K p H v (.int i) from h)
  rfl
theorem Seen.bl {K : PySem.W.Frag} {p : Pm} {H : Hp} {v : V} {i : Bool} (h : Seen K p H v (.bl i)) : v = .bl i := by
  cases (show Rep K p H v (.bl i) from h)
  rfl
theorem Seen.str {K : PySem.W.Frag} {p : Pm} {H : Hp} {v : V} {i : Str} (h : Seen K p H v (.str i)) : v = .str i := by
  cases (show Rep K p H v (.str i) from h)
  rfl
theorem Seen.non {K : PySem.W.Frag} {p : Pm} {H : Hp} {v : V} (h : Seen K p H v .non) : v = .non := by
  cases (show Rep K p H v .non from h)
  rfl
theorem Seen.tup {K : PySem.W.Frag} {p : Pm} {H : Hp} {v : V} {ds : List D} (h : Seen K p H v (.tup ds)) : ∃ a vs,v = .ref a /\ SqT K H a vs /\ Reps K p H vs ds := Rep.tupS (show Rep K p H v (.tup ds) from h)
theorem Res.int {K : PySem.W.Frag} {p : Pm} {H : Hp} {i : Int} : Res K p H (.int i) (.int i) H := ⟨rfl,.int i⟩
theorem Res.bl {K : PySem.W.Frag} {p : Pm} {H : Hp} {i : Bool} : Res K p H (.bl i) (.bl i) H := ⟨rfl,.bl i⟩
theorem Res.str {K : PySem.W.Frag} {p : Pm} {H : Hp} {i : Str} : Res K p H (.str i) (.str i) H := ⟨rfl,.str i⟩
theorem hSa {p : Pm} {ds : List D} {vs : List V} {a : Addr} {k : Int} {pins : List (Addr × Obj)} {σ : L2.St} {H : Hp} {s : Shared} {u v : Value} {Q : VK} (I : Inv X pins σ H s) (ha : SqT X.K H a vs) (ra : Reps X.K p H vs ds) (rx : RelV (.ref a) v) (ry : RelV (.int k) u)
    (hd : Rep X.K p H (.ref a) (.tup ds)) (h1 : -(2 ^ 63) <= k) (h2 : k < 2 ^ 63) (h3 : ds.length * k.toNat <= sizeLine) (q : ∀ v H',Res X.K p H (.tup (List.replicate k.toNat ds).flatten) v H' -> Q v H') : wpAny (model X.prog X.w) X.A (binaryOp .Mult v u) (EP X pins σ Q) X.xe s := by
  cases rx
  obtain ⟨t,rfl⟩ := ry
  obtain ⟨its,r,⟨⟨cls,dd,data,sl⟩,ho,hc,n,hdt⟩,hs⟩ := I.tuple ha
  simp only at hc hdt
  subst hc hdt
  have hle : its.length = ds.length := r.length.symm.trans ra.len
  have c0 : (decide (k < -(2 ^ 63)) || decide (k ≥ 2 ^ 63)) = false := by
    rw [decide_eq_false (by omega),decide_eq_false (by omega)] <;> rfl
  by_cases hi : its.toArray.isEmpty = true \/ k = 1
  · have c1 : (its.toArray.isEmpty || k == 1) = true := by
      rcases hi with hi | hi
      · rw [hi,Bool.true_or]
      · rw [hi]; simp
    have e : (List.replicate k.toNat ds).flatten = ds := by
      rcases hi with hi | hi
      · have : its = [] := by simpa using hi
        rw [this] at hle
        have : ds = [] := List.eq_nil_of_length_eq_zero hle.symm
        rw [this]
        exact List.flatten_eq_nil_iff.mpr fun l hl => (List.mem_replicate.mp hl).2
      · rw [hi]
        simp
    rw [e] at q
    refine wpAny_binaryOp_repeat_ref (T := "tuple") (U := "int") (by decide) ⟨_,ho,rfl⟩ (fun s' => typeIs_int s' k t) noFill_tuple_mul F.fills_int_mul F.slot_int_rmul repeat_tuple F.slot_int_index.lookup
      (call_meets F.slot_int_rmul (typeIs_int s k t) F.entry_int_rmul (F.args_int_rmul_2 _ _) (int_rmul_tuple k t a its.toArray n dd sl)
        ⟨ho,rfl,⟨_,ho,rfl⟩,call_meets F.slot_tuple_mul ⟨_,ho,rfl⟩ F.entry_tuple_mul (F.args_tuple_mul_2 _ _) (mFa a its.toArray n dd sl k t c0 c1) ⟨ho,?_⟩⟩)
    exact ⟨.ref a,H,I,rfl,q _ _ (.inr ⟨rfl,hd⟩)⟩
  · have c1 : (its.toArray.isEmpty || k == 1) = false := by
      rw [Bool.or_eq_false_iff]
      exact ⟨by simpa using fun h => hi (.inl h),by simpa using fun h => hi (.inr h)⟩
    by_cases hk : k <= 0
    · have c2 : (decide (k <= 0) || its.toArray.isEmpty) = true := by rw [decide_eq_true hk,Bool.true_or]
      have hk0 : k.toNat = 0 := by omega
      rw [hk0] at q
      refine wpAny_binaryOp_repeat_ref (T := "tuple") (U := "int") (by decide) ⟨_,ho,rfl⟩ (fun s' => typeIs_int s' k t) noFill_tuple_mul F.fills_int_mul F.slot_int_rmul repeat_tuple F.slot_int_index.lookup
        (call_meets F.slot_int_rmul (typeIs_int s k t) F.entry_int_rmul (F.args_int_rmul_2 _ _) (int_rmul_tuple k t a its.toArray n dd sl)
          ⟨ho,rfl,⟨_,ho,rfl⟩,call_meets F.slot_tuple_mul ⟨_,ho,rfl⟩ F.entry_tuple_mul (F.args_tuple_mul_2 _ _) (mEa a its.toArray n dd sl k t c0 c1 c2) ⟨ho,?_⟩⟩)
      refine ⟨.ref s.heap.objs.size,_,I.laid (t' := s.toks) (o := .tup []) (fun b ob q => Heap.get?_push_of_some _ q) (Nat.le_refl _) ?_,rfl,q _ _ (.inl ⟨_,[],rfl,I.hok.fresh (Nat.le_refl _),rfl,.nil⟩)⟩
      exact ⟨Nat.zero_le _,[],.nil,IsTup.new _ _⟩
    · have hi2 : its.toArray.isEmpty = false := by simpa using fun h => hi (.inl h)
      have c2 : (decide (k <= 0) || its.toArray.isEmpty) = false := by
        rw [hi2,Bool.or_false]
        exact decide_eq_false hk
      have hprod : ((its.toArray.size : Nat) : Int) * k <= (sizeLine : Nat) := by
        have e : k = ((k.toNat : Nat) : Int) := by omega
        rw [List.size_toArray,hle,e]
        exact_mod_cast h3
      have h16 : (sizeLine : Nat) = 16777216 := sizeLine_eq
      have flen : (List.replicate k.toNat its).flatten.length <= sizeLine := by
        rw [PyProof.Rows.lm_len_rep_flat,hle,Nat.mul_comm]
        exact h3
      refine wpAny_binaryOp_repeat_ref (T := "tuple") (U := "int") (by decide) ⟨_,ho,rfl⟩ (fun s' => typeIs_int s' k t) noFill_tuple_mul F.fills_int_mul F.slot_int_rmul repeat_tuple F.slot_int_index.lookup
        (call_meets F.slot_int_rmul (typeIs_int s k t) F.entry_int_rmul (F.args_int_rmul_2 _ _) (int_rmul_tuple k t a its.toArray n dd sl)
          ⟨ho,rfl,⟨_,ho,rfl⟩,call_meets F.slot_tuple_mul ⟨_,ho,rfl⟩ F.entry_tuple_mul (F.args_tuple_mul_2 _ _) (tuple_mulW a its.toArray n dd sl k t c0 c1 c2 (by omega) (by
            unfold Builtin.Tuple.tupleTooMany
            exact decide_eq_false (by omega)) (by rw [size_rep,List.size_toArray]; exact flen)) ⟨ho,?_⟩⟩)
      rw [size_rep]
      refine ⟨.ref s.heap.objs.size,_,I.laid (t' := s.toks) (o := .tup (List.replicate k.toNat vs).flatten) (fun b ob q => Heap.get?_push_of_some _ q) (Nat.le_refl _) ?_,rfl,q _ _ (.inl ⟨_,_,rfl,I.hok.fresh (Nat.le_refl _),rfl,ra.rep k.toNat⟩)⟩
      exact ⟨by rw [PyProof.Rows.lm_len_rep_flat,ra.len,Nat.mul_comm]; exact h3,_,r.rep k.toNat,IsTup.new _ _⟩
theorem mulOk.fits {i j : Int} (h : mulOk i j) : IntMulOk i j := by
  have b : ∀ x : Int,Builtin.Int.intBits x <= x.natAbs.log2 + 1 := fun x => by
    unfold Builtin.Int.intBits
    split <;> omega
  have h1 := b i
  have h2 := b j
  have h3 : i.natAbs.log2 + j.natAbs.log2 < 134000000 := h
  have e : bitsLine = 134217728 := by decide
  intro z
  rw [Bool.and_eq_true] at z
  have z2 := z.2
  unfold Builtin.Int.intTooBig at z2
  have z3 := of_decide_eq_true z2
  rw [e] at z3
  omega
theorem hRa {X : Cx} : OpR X (binaryOp .Mult) (rI mulOk fun i j => .int (i * j)) := opI fun _ _ _ _ _ _ _ hc q => mul_int q hc.fits
theorem hPa {X : Cx} : OpR X (binaryOp .FloorDiv) (rI (fun _ j => j ≠ 0 /\ j.natAbs.log2 < 9000) fun i j => .int (i.fdiv j)) := opI fun i j _ _ _ _ _ hc q => floordiv_int hc.1 q (.inl (PyProof.noPylong_of_log2 hc.2))
theorem hOa (o : BOp) : OpR X (binaryOp o.of) (rB X.K o) := by
  intro pins s σ H x y v u Q I rx ry h
  obtain ⟨p,d,e,hd,he,q⟩ := h
  have nn : ∀ {o d e},binV o d e = none -> binK o d e (fun z => ∀ v H',Res X.K p H z v H' -> Q v H') -> False := fun e q => by
    unfold binK at q
    rw [e] at q
    exact q
  cases o
  case add =>
    cases d <;> cases e
    case int.int i j =>
      have q : True /\ _ := q
      exact op_add pins s σ H _ _ v u Q I rx ry ⟨i,j,hd.int,he.int,q.2 _ _ .int⟩
    case str.str i j =>
      have q : _ /\ _ := q
      exact op_add_str pins s σ H _ _ v u Q I rx ry ⟨i,j,hd.str,he.str,q.1,q.2 _ _ .str⟩
    case tup.tup xs ys =>
      have q : _ /\ _ := q
      obtain ⟨a,vs,rfl,ha,ra⟩ := hd.tup
      obtain ⟨b,ws,rfl,hb,rb⟩ := he.tup
      refine op_catA pins s σ H _ _ v u Q I rx ry ⟨a,b,vs,ws,rfl,rfl,ha,hb,by rw [ra.len,rb.len]; exact q.1,fun e => ?_,fun _ e => ?_,fun _ _ c hc => ?_⟩
      · subst e
        cases ra
        exact q.2 _ _ (.inr ⟨rfl,he⟩)
      · subst e
        cases rb
        refine q.2 _ _ (.inr ⟨rfl,?_⟩)
        rw [List.append_nil]
        exact hd
      · exact q.2 _ _ (.inl ⟨c,_,rfl,hc,rfl,ra.append rb⟩)
    case vtup.vtup xs ys =>
      have q : _ /\ _ := q
      obtain ⟨a,vs,rfl,ha,_,ra⟩ := Rep.vtupS (show Rep X.K p H x (.vtup xs) from hd)
      obtain ⟨b,ws,rfl,hb,_,rb⟩ := Rep.vtupS (show Rep X.K p H y (.vtup ys) from he)
      refine op_catA pins s σ H _ _ v u Q I rx ry ⟨a,b,vs,ws,rfl,rfl,ha,hb,by rw [ra.len,rb.len]; exact q.1,fun e => ?_,fun _ e => ?_,fun _ _ c hc => ?_⟩
      · subst e
        cases ra
        exact q.2 _ _ (.inr ⟨rfl,he⟩)
      · subst e
        cases rb
        refine q.2 _ _ (.inr ⟨rfl,?_⟩)
        rw [List.append_nil]
        exact hd
      · exact q.2 _ _ (.inl ⟨c,_,rfl,hc,rfl,ra.append rb⟩)
    case lst.lst xs ys =>
      have q : _ /\ _ := q
      obtain ⟨a,vs,rfl,ha,ra⟩ := hd
      obtain ⟨b,ws,rfl,hb,rb⟩ := he
      cases rx
      cases ry
      obtain ⟨its,n,r,hl,hz,e1⟩ := lsx I ha
      obtain ⟨its2,n2,r2,hl2,hz2,e2⟩ := lsx I hb
      have hs : xs.length + ys.length <= sizeLine := q.1
      rw [<- ra.len,<- rb.len] at hs
      refine PySem.P.add_list e1 e2 ?_ (by rw [List.size_toArray,List.size_toArray]; omega)
      have ea : its.toArray ++ its2.toArray = (its ++ its2).toArray := by simp
      rw [ea]
      exact ep (I.lnew (t' := s.toks) (r.append r2) (by rw [List.length_append]; omega)) (v := .ref _) rfl q.2 ⟨_,_,rfl,I.fresh,rfl,ra.append rb⟩
    all_goals exact (nn rfl q).elim
  case sub =>
    cases d <;> cases e
    case int.int i j =>
      have q : True /\ _ := q
      exact op_sub pins s σ H _ _ v u Q I rx ry ⟨i,j,hd.int,he.int,q.2 _ _ .int⟩
    all_goals exact (nn rfl q).elim
  case mul =>
    cases d <;> cases e
    case int.int i j =>
      have q : _ /\ _ := q
      exact hRa pins s σ H _ _ v u Q I rx ry ⟨i,j,hd.int,he.int,q.1,q.2 _ _ .int⟩
    case str.int z k =>
      obtain ⟨⟨⟨h1,h2⟩,h3⟩,q⟩ := (show _ /\ _ from q)
      obtain rfl := hd.str
      obtain rfl := he.int
      obtain ⟨t,rfl⟩ := rx
      obtain ⟨t',rfl⟩ := ry
      refine PySem.SB.mul ⟨?_,fun h _ => ?_,fun h _ => ?_⟩ fun t' k' => ⟨.str _,H,I.tok _,⟨_,rfl⟩,q _ _ .str⟩
      · rw [decide_eq_false (by omega),decide_eq_false (by omega)] <;> rfl
      · have hk : 1 <= k := by omega
        have h4 : (z.length : Int) * k <= 16777216 := by
          have e : k = (k.toNat : Int) := by omega
          rw [e,<- Int.natCast_mul]
          exact Int.ofNat_le.mpr h3
        have := (Int.le_ediv_iff_mul_le (a := (z.length : Int)) (b := 2 ^ 63 - 1) (show 0 < k by omega)).mpr (by omega)
        omega
      · unfold Builtin.Str.tooLong
        rw [sizeLine_eq]
        exact decide_eq_false (by omega)
    case tup.int xs k =>
      obtain ⟨⟨⟨h1,h2⟩,h3⟩,q⟩ := (show _ /\ _ from q)
      obtain ⟨a,vs,rfl,ha,ra⟩ := hd.tup
      obtain rfl := he.int
      exact hSa I ha ra rx ry hd h1 h2 h3 q
    case lst.int xs k =>
      have q : _ /\ _ := q
      obtain ⟨a,vs,rfl,ha,ra⟩ := hd
      obtain rfl := he.int
      cases rx
      obtain ⟨t,rfl⟩ := ry
      obtain ⟨its,n,r,hl,hz,e⟩ := lsx I ha
      obtain ⟨⟨⟨h1,h2⟩,h3⟩,q⟩ := q
      have hlen : its.toArray.size * k.toNat <= sizeLine := by rw [List.size_toArray,<- hl,ra.len]; exact h3
      have hcap : ¬ its.toArray.size * k.toNat > (2 ^ 63 - 1) / 8 := by
        have : (sizeLine : Nat) <= (2 ^ 63 - 1) / 8 := by decide
        omega
      have hfit : ¬ (!Builtin.List.listFitsIndex k) = true := by
        rw [fitsIndex_both h1 h2]
        exact Bool.false_ne_true
      have hlong : ¬ Builtin.List.listTooLong (its.toArray.size * k.toNat) = true := by
        rw [notLongL hlen]
        exact Bool.false_ne_true
      have hnew : List.foldl (fun x1 x2 => x1 ++ x2) #[] (List.replicate (if its.toArray.isEmpty = true then 0 else k.toNat) its.toArray) = (List.replicate k.toNat its).flatten.toArray := by
        have f0 : ∀ m : Nat,List.foldl (fun x1 x2 => x1 ++ x2) #[] (List.replicate m its.toArray) = (List.replicate m its).flatten.toArray := fun m => by
          have w := foldl_rep its m []
          rw [List.nil_append] at w
          exact w
        rw [f0]
        cases its with
        | nil => simp
        | cons a r' => rw [if_neg (by simp)]
      refine wpAny_binaryOp_repeat_ref (T := "list") (U := "int") (by decide) ⟨_,e,rfl⟩ (fun s' => typeIs_int s' k t) noFill_list_mul F.fills_int_mul F.slot_int_rmul repeat_list F.slot_int_index.lookup
        (call_meets F.slot_int_rmul (typeIs_int s k t) F.entry_int_rmul (F.args_int_rmul_2 _ _) (int___rmul___int_list k t a its.toArray n)
          ⟨e,rfl,⟨_,e,rfl⟩,call_meets F.slot_list_mul ⟨_,e,rfl⟩ F.entry_list_mul (F.args_list_mul_2 _ _) (AutoListH.list___mul___list_int_3 a its.toArray n k t hfit hcap hlong) ⟨e,?_⟩⟩)
      rw [hnew]
      exact ep (I.lnew (t' := s.toks) (r.rep k.toNat) (by rw [PyProof.Rows.lm_len_rep_flat,Nat.mul_comm,ra.len]; exact h3)) (v := .ref _) rfl q ⟨_,_,rfl,I.fresh,rfl,ra.rep k.toNat⟩
    all_goals exact (nn rfl q).elim
  case fdiv =>
    cases d <;> cases e
    case int.int i j =>
      have q : _ /\ _ := q
      exact op_fdivW pins s σ H _ _ v u Q I rx ry ⟨i,j,hd.int,he.int,q.1,q.2 _ _ .int⟩
    all_goals exact (nn rfl q).elim
  case fdivN =>
    cases d <;> cases e
    case int.int i j =>
      have q : _ /\ _ := q
      exact hPa pins s σ H _ _ v u Q I rx ry ⟨i,j,hd.int,he.int,q.1,q.2 _ _ .int⟩
    all_goals exact (nn rfl q).elim
  case mod =>
    cases d <;> cases e
    case int.int i j =>
      have q : _ /\ _ := q
      exact op_mod pins s σ H _ _ v u Q I rx ry ⟨i,j,hd.int,he.int,q.1,q.2 _ _ .int⟩
    all_goals exact (nn rfl q).elim
  case pow =>
    cases d <;> cases e
    case int.int i j =>
      have q : _ /\ _ := q
      exact op_pow pins s σ H _ _ v u Q I rx ry ⟨i,j,hd.int,he.int,q.1,q.2 _ _ .int⟩
    all_goals exact (nn rfl q).elim
  case shl =>
    cases d <;> cases e
    case int.int i j =>
      have q : _ /\ _ := q
      obtain rfl := hd.int
      obtain rfl := he.int
      obtain ⟨t,rfl⟩ := rx
      obtain ⟨t2,rfl⟩ := ry
      refine lshift_int q.1.1 ?_ ⟨.int _,H,I.tok _,⟨_,rfl⟩,q.2 _ _ .int⟩
      have b : Builtin.Int.intBits i <= 2001 := by
        unfold Builtin.Int.intBits
        by_cases h0 : i.natAbs = 0
        · split <;> simp_all
        · have := (Nat.log2_lt h0).mpr q.1.2.2
          split <;> omega
      have := q.1.2.1
      omega
    all_goals exact (nn rfl q).elim
  case shr =>
    cases d <;> cases e
    case int.int i j =>
      have q : _ /\ _ := q
      exact op_shr pins s σ H _ _ v u Q I rx ry ⟨i,j,hd.int,he.int,q.1,q.2 _ _ .int⟩
    all_goals exact (nn rfl q).elim
  case band =>
    cases d <;> cases e
    case int.int i j =>
      have q : True /\ _ := q
      exact op_and pins s σ H _ _ v u Q I rx ry ⟨i,j,hd.int,he.int,q.2 _ _ .int⟩
    all_goals exact (nn rfl q).elim
  case bor =>
    cases d <;> cases e
    case int.int i j =>
      have q : True /\ _ := q
      exact op_or pins s σ H _ _ v u Q I rx ry ⟨i,j,hd.int,he.int,q.2 _ _ .int⟩
    all_goals exact (nn rfl q).elim
  case bxor =>
    cases d <;> cases e
    case int.int i j =>
      have q : True /\ _ := q
      exact op_xor pins s σ H _ _ v u Q I rx ry ⟨i,j,hd.int,he.int,q.2 _ _ .int⟩
    all_goals exact (nn rfl q).elim
mutual
theorem Rep.dp {K : PySem.W.Frag} {p : Pm} {H : Hp} : ∀ {d : D} {v : V} {q : PyData},Rep K p H v d -> d.py = some q -> Dp K H v q
  | .non,_,_,h,e => by
    cases h
    cases e
    exact .non
  | .bl b,_,_,h,e => by
    cases h
    cases e
    exact .bl b
  | .int i,_,_,h,e => by
    cases h
    cases e
    exact .int i
  | .str x,_,_,h,e => by
    cases h
    cases e
    exact .str x
  | .tup xs,_,_,h,e => by
    obtain ⟨qs,e1,rfl⟩ := Option.map_eq_some_iff.mp (show (D.pys xs).map _ = _ from e)
    obtain ⟨a,vs,rfl,ha,ra⟩ := h.tupS
    exact .tup ha (Reps.dp ra e1)
  | .ptup xs,_,_,h,e => by
    obtain ⟨qs,e1,rfl⟩ := Option.map_eq_some_iff.mp (show (D.pys xs).map _ = _ from e)
    obtain ⟨a,vs,rfl,ha,_,ra⟩ := h.ptupS
    exact .tup ha (Reps.dp ra e1)
  | .vtup xs,_,_,h,e => by
    obtain ⟨qs,e1,rfl⟩ := Option.map_eq_some_iff.mp (show (D.pys xs).map _ = _ from e)
    obtain ⟨a,vs,rfl,ha,_,ra⟩ := h.vtupS
    exact .tup ha (Reps.dp ra e1)
  | .lst xs,_,_,h,e => by
    obtain ⟨qs,e1,rfl⟩ := Option.map_eq_some_iff.mp (show (D.pys xs).map _ = _ from e)
    obtain ⟨a,vs,rfl,ha,ra⟩ := h.seen
    exact .lst ha.sq (Reps.dp ra e1)
  | .dct _,_,_,_,e => by cases e
  | .dctT _,_,_,_,e => by cases e
  | .ref _,_,_,_,e => by cases e
theorem Reps.dp {K : PySem.W.Frag} {p : Pm} {H : Hp} : ∀ {ds : List D} {vs : List V} {qs : List PyData},Reps K p H vs ds -> D.pys ds = some qs -> DpAll K H vs qs
  | [],_,_,h,e => by
    cases h
    cases e
    exact .nil
  | d :: ds,_,_,h,e => by
    cases h with
    | cons h r =>
      unfold D.pys at e
      split at e
      · cases e
        exact .cons (Rep.dp h (by assumption)) (Reps.dp r (by assumption))
      · cases e
end
theorem Seen.dp {K : PySem.W.Frag} {p : Pm} {H : Hp} : ∀ {d : D} {v : V} {q : PyData},Seen K p H v d -> d.py = some q -> Dp K H v q
  | .lst xs,_,_,h,e => by
    obtain ⟨qs,e1,rfl⟩ := Option.map_eq_some_iff.mp (show (D.pys xs).map _ = _ from e)
    obtain ⟨a,vs,rfl,ha,ra⟩ := h
    exact .lst ha.sq (Reps.dp ra e1)
  | .non,_,_,h,e | .bl _,_,_,h,e | .int _,_,_,h,e | .str _,_,_,h,e | .tup _,_,_,h,e | .ptup _,_,_,h,e | .vtup _,_,_,h,e => Rep.dp (show Rep K p H _ _ from h) e
  | .dct _,_,_,_,e => by cases e
  | .dctT _,_,_,_,e => by cases e
  | .ref _,_,_,_,e => by cases e
def COp.of : COp -> CmpOp
  | .eq => .Eq | .ne => .NotEq | .lt => .Lt | .le => .LtE | .gt => .Gt | .ge => .GtE | .isin => .In | .notin => .NotIn | .isn => .Is | .notn => .IsNot
def rC (K : PySem.W.Frag) (o : COp) : R2 := fun x y H Q => ∃ p d e,Seen K p H x d /\ Seen K p H y e /\ cmpK o d e fun t => Q (.bl t) H
theorem mG {K : PySem.W.Frag} {p : Pm} {H : Hp} {v : V} {d : D} (h : Seen K p H v d) : decide (v = .non) = isNon d := by
  cases d with
  | non => rw [h.non]; rfl
  | bl _ => rw [h.bl]; rfl
  | int _ => rw [h.int]; rfl
  | str _ => rw [h.str]; rfl
  | tup _ =>
    obtain ⟨a,vs,rfl,_⟩ := h.tup
    rfl
  | ptup _ =>
    obtain ⟨a,vs,rfl,_⟩ := Rep.ptupS h
    rfl
  | vtup _ =>
    obtain ⟨a,vs,rfl,_⟩ := Rep.vtupS h
    rfl
  | lst _ =>
    obtain ⟨a,vs,rfl,_⟩ := h
    rfl
  | dct _ =>
    obtain ⟨a,_,rfl,_⟩ := h
    rfl
  | dctT _ =>
    obtain ⟨a,_,rfl,_⟩ := h
    rfl
  | ref _ =>
    cases (show Rep K p H v (.ref _) from h)
    rfl
mutual
theorem aG : ∀ {d : D} {q : PyData},d.py = some q -> q.depth = d.dep /\ q.plain = true
  | .non,_,e | .bl _,_,e | .int _,_,e | .str _,_,e => by
    cases e
    exact ⟨by simp only [PyData.depth,D.dep],by simp only [PyData.plain]⟩
  | .tup xs,_,e => by
    obtain ⟨qs,e1,rfl⟩ := Option.map_eq_some_iff.mp (show (D.pys xs).map _ = _ from e)
    obtain ⟨h1,h2⟩ := bB e1
    exact ⟨by simp only [PyData.depth,D.dep,h1],by simp only [PyData.plain,h2]⟩
  | .ptup xs,_,e => by
    obtain ⟨qs,e1,rfl⟩ := Option.map_eq_some_iff.mp (show (D.pys xs).map _ = _ from e)
    obtain ⟨h1,h2⟩ := bB e1
    exact ⟨by simp only [PyData.depth,D.dep,h1],by simp only [PyData.plain,h2]⟩
  | .vtup xs,_,e => by
    obtain ⟨qs,e1,rfl⟩ := Option.map_eq_some_iff.mp (show (D.pys xs).map _ = _ from e)
    obtain ⟨h1,h2⟩ := bB e1
    exact ⟨by simp only [PyData.depth,D.dep,h1],by simp only [PyData.plain,h2]⟩
  | .lst xs,_,e => by
    obtain ⟨qs,e1,rfl⟩ := Option.map_eq_some_iff.mp (show (D.pys xs).map _ = _ from e)
    obtain ⟨h1,h2⟩ := bB e1
    exact ⟨by simp only [PyData.depth,D.dep,h1],by simp only [PyData.plain,h2]⟩
  | .dct _,_,e => by cases e
  | .dctT _,_,e => by cases e
  | .ref _,_,e => by cases e
theorem bB : ∀ {d : List D} {q : List PyData},D.pys d = some q -> PyData.depthAll q = D.deps d /\ PyData.plainAll q = true
  | [],_,e => by
    cases e
    exact ⟨by simp only [PyData.depthAll,D.deps],by simp only [PyData.plainAll]⟩
  | d :: ds,_,e => by
    unfold D.pys at e
    split at e
    · rename_i a b h1 h2
      cases e
      obtain ⟨x1,x2⟩ := aG h1
      obtain ⟨y1,y2⟩ := bB h2
      exact ⟨by simp only [PyData.depthAll,D.deps,x1,y1],by simp only [PyData.plainAll,x2,y2,Bool.and_self]⟩
    · cases e
end
theorem lR {d e : D} {k : Bool -> Prop} (h : ok (eqV d e) k) : ∃ p q,d.py = some p /\ e.py = some q /\ min p.depth q.depth <= 60 /\ k (PyData.eqv p q) := by
  unfold eqV at h
  split at h
  · rename_i p q h1 h2
    exact ⟨p,q,h1,h2,by rw [(aG h1).1,(aG h2).1]; exact h.1,h.2⟩
  · exact h.elim
theorem jJ {d e : D} {k : Bool -> Prop} (h : ok (memV d e) k) : ∃ p qs,d.py = some p /\ (e.py = some (.list qs) \/ e.py = some (.tuple qs)) /\ min (PyData.depthAll qs) p.depth <= 60 /\ k (qs.any fun q => PyData.eqv q p) := by
  unfold memV at h
  split at h
  · rename_i p xs h1
    split at h
    · rename_i qs h2
      exact ⟨p,qs,h1,.inl (by show (D.pys _).map _ = _; rw [h2]; rfl),by rw [(bB h2).1,(aG h1).1]; exact h.1,h.2⟩
    · exact h.elim
  · rename_i p xs h1
    split at h
    · rename_i qs h2
      exact ⟨p,qs,h1,.inr (by show (D.pys _).map _ = _; rw [h2]; rfl),by rw [(bB h2).1,(aG h1).1]; exact h.1,h.2⟩
    · exact h.elim
  · exact h.elim
theorem reps_ints' {K : PySem.W.Frag} {p : Pm} {H : Hp} : ∀ {vs : List V} {ds : List D} {ns : List Int},Reps K p H vs ds -> D.ints ds = some ns -> vs = ns.map V.int
  | _,_,_,.nil,e => by
    cases e
    rfl
  | _,d :: r,_,.cons h t,e => by
    cases d with
    | int i =>
      obtain ⟨qs,e1,rfl⟩ := Option.map_eq_some_iff.mp (show (D.ints r).map _ = _ from e)
      cases h
      rw [List.map_cons,reps_ints' t e1]
    | _ => cases e
theorem mE {d e : D} {k : Bool -> Prop} (hd : isDct e = true) (h : ok (inV d e) k) : ∃ o,dAt e d = some o /\ k o.isSome := by
  unfold inV at h
  rw [hd] at h
  cases q : dAt e d with
  | none =>
    rw [q] at h
    exact h.elim
  | some o =>
    rw [q] at h
    exact ⟨o,rfl,h.2⟩
theorem cC (hu : X.A.units + 64 < cLine) (o : COp) : OpR X (compareOp o.of) (rC X.K o) := by
  intro pins s σ H x y v u Q I rx ry h
  obtain ⟨p,d,e,hd,he,q⟩ := h
  have nn : ∀ {o d e},cmpV o d e = none -> cmpK o d e (fun t => Q (.bl t) H) -> False := fun e q => by
    unfold cmpK at q
    rw [e] at q
    exact q
  cases o
  case eq =>
    obtain ⟨a,b,e1,e2,z,q⟩ := lR q
    obtain ⟨as,r1⟩ := Dp.reads I a x v (hd.dp e1) rx
    obtain ⟨bs,r2⟩ := Dp.reads I b y u (he.dp e2) ry
    exact SeqAt.eq_plain r1 r2 (aG e1).2 (aG e2).2 (by omega) ⟨.bl _,H,I,rfl,q⟩
  case ne =>
    obtain ⟨a,b,e1,e2,z,q⟩ := lR (k := fun t => Q (.bl (!t)) H) (Eq.mp (jL (f := not) (o := eqV d e) (k := fun t => Q (.bl t) H)) q)
    obtain ⟨as,r1⟩ := Dp.reads I a x v (hd.dp e1) rx
    obtain ⟨bs,r2⟩ := Dp.reads I b y u (he.dp e2) ry
    exact SeqAt.ne_plain r1 r2 (aG e1).2 (aG e2).2 (by omega) ⟨.bl _,H,I,rfl,q⟩
  case isin =>
    have q : ok (inV d e) _ := q
    cases hdc : isDct e with
    | true =>
      obtain ⟨o,e1,q⟩ := mE hdc q
      obtain ⟨a,r,rfl,hg,hr⟩ := lI hd he e1
      cases ry
      exact d_in (by omega) I hg rx fun s' I' => ⟨.bl _,H,I',rfl,by rw [hr.isSome]; exact q⟩
    | false =>
    rw [mD hdc] at q
    obtain ⟨a,b,e1,e2,z,q⟩ := jJ q
    obtain ⟨as,r1⟩ := Dp.reads I a x v (hd.dp e1) rx
    rcases e2 with e2 | e2
    · obtain ⟨bs,r2⟩ := Dp.reads I _ y u (he.dp e2) ry
      exact SeqAt.in_list_data r2 r1 (aG e2).2 (aG e1).2 (by omega) ⟨.bl _,H,I,rfl,q⟩
    · obtain ⟨bs,r2⟩ := Dp.reads I _ y u (he.dp e2) ry
      exact SeqAt.in_tuple_data r2 r1 (aG e2).2 (aG e1).2 (by omega) ⟨.bl _,H,I,rfl,q⟩
  case notin =>
    have q : ok (inV d e) fun t => Q (.bl (!t)) H := Eq.mp (jL (f := not) (o := inV d e) (k := fun t => Q (.bl t) H)) q
    cases hdc : isDct e with
    | true =>
      obtain ⟨o,e1,q⟩ := mE hdc q
      obtain ⟨a,r,rfl,hg,hr⟩ := lI hd he e1
      cases ry
      exact d_notIn (by omega) I hg rx fun s' I' => ⟨.bl _,H,I',rfl,by rw [hr.isSome]; exact q⟩
    | false =>
    rw [mD hdc] at q
    obtain ⟨a,b,e1,e2,z,q⟩ := jJ q
    obtain ⟨as,r1⟩ := Dp.reads I a x v (hd.dp e1) rx
    rcases e2 with e2 | e2
    · obtain ⟨bs,r2⟩ := Dp.reads I _ y u (he.dp e2) ry
      exact SeqAt.notIn_list_data r2 r1 (aG e2).2 (aG e1).2 (by omega) ⟨.bl _,H,I,rfl,q⟩
    · obtain ⟨bs,r2⟩ := Dp.reads I _ y u (he.dp e2) ry
      exact SeqAt.notIn_tuple_data r2 r1 (aG e2).2 (aG e1).2 (by omega) ⟨.bl _,H,I,rfl,q⟩
  case isn =>
    cases e
    case non =>
      have q : True /\ _ := q
      have q : True /\ _ := q
      exact op_isN pins s σ H _ _ v u Q I rx ry ⟨he.non,by rw [mG hd]; exact q.2⟩
    case bl b =>
      cases d
      case bl a =>
        have q : True /\ _ := q
        exact op_isBl pins s σ H _ _ v u Q I rx ry ⟨a,b,hd.bl,he.bl,q.2⟩
      all_goals exact (nn (o := .isn) rfl q).elim
    all_goals exact (nn (o := .isn) (d := d) (by cases d <;> rfl) q).elim
  case notn =>
    cases e
    case non =>
      have q : True /\ _ := q
      have q : True /\ _ := q
      exact op_notN pins s σ H _ _ v u Q I rx ry ⟨he.non,by rw [mG hd]; exact q.2⟩
    case bl b =>
      cases d
      case bl a =>
        have q : True /\ _ := q
        exact op_notBl pins s σ H _ _ v u Q I rx ry ⟨a,b,hd.bl,he.bl,q.2⟩
      all_goals exact (nn (o := .notn) rfl q).elim
    all_goals exact (nn (o := .notn) (d := d) (by cases d <;> rfl) q).elim
  case lt =>
    cases d <;> cases e
    case int.int i j =>
      have q : True /\ _ := q
      exact op_lt pins s σ H _ _ v u Q I rx ry ⟨i,j,hd.int,he.int,q.2⟩
    case tup.tup xs ys =>
      have q : ok (match D.ints xs,D.ints ys with
        | some ns,some ms => yes (HT.lexLt ns ms)
        | _,_ => none) _ := q
      cases e1 : D.ints xs with
      | none => rw [e1] at q; exact q.elim
      | some ns =>
        cases e2 : D.ints ys with
        | none => rw [e1,e2] at q; exact q.elim
        | some ms =>
          rw [e1,e2] at q
          obtain ⟨a,vs,rfl,ha,ra⟩ := hd.tup
          obtain ⟨b,ws,rfl,hb,rb⟩ := he.tup
          rw [reps_ints' ra e1] at ha
          rw [reps_ints' rb e2] at hb
          exact op_ltT (by omega) pins s σ H _ _ v u Q I rx ry ⟨a,b,ns,ms,rfl,rfl,ha,hb,q.2⟩
    all_goals exact (nn rfl q).elim
  case le =>
    cases d <;> cases e
    case int.int i j =>
      have q : True /\ _ := q
      exact op_le pins s σ H _ _ v u Q I rx ry ⟨i,j,hd.int,he.int,q.2⟩
    all_goals exact (nn rfl q).elim
  case gt =>
    cases d <;> cases e
    case int.int i j =>
      have q : True /\ _ := q
      exact op_gt pins s σ H _ _ v u Q I rx ry ⟨i,j,hd.int,he.int,q.2⟩
    case tup.tup xs ys =>
      have q : ok (match D.ints xs,D.ints ys with
        | some ns,some ms => yes (HT.lexLt ms ns)
        | _,_ => none) _ := q
      cases e1 : D.ints xs with
      | none => rw [e1] at q; exact q.elim
      | some ns =>
        cases e2 : D.ints ys with
        | none => rw [e1,e2] at q; exact q.elim
        | some ms =>
          rw [e1,e2] at q
          obtain ⟨a,vs,rfl,ha,ra⟩ := hd.tup
          obtain ⟨b,ws,rfl,hb,rb⟩ := he.tup
          rw [reps_ints' ra e1] at ha
          rw [reps_ints' rb e2] at hb
          exact hQa (by omega) pins s σ H _ _ v u Q I rx ry ⟨a,b,ns,ms,rfl,rfl,ha,hb,q.2⟩
    all_goals exact (nn rfl q).elim
  case ge =>
    cases d <;> cases e
    case int.int i j =>
      have q : True /\ _ := q
      exact op_ge pins s σ H _ _ v u Q I rx ry ⟨i,j,hd.int,he.int,q.2⟩
    all_goals exact (nn rfl q).elim
theorem iA {K : PySem.W.Frag} {p : Pm} {H : Hp} {v : V} {d : D} {k : Bool -> Prop} (h : Seen K p H v d) (q : tru d k) : ∃ b,TruV K v H b /\ k b := by
  cases d with
  | non => exact ⟨false,by rw [h.non]; exact ⟨rfl,q.2⟩⟩
  | bl b => exact ⟨b,by rw [h.bl]; exact ⟨rfl,q.2⟩⟩
  | int i => exact ⟨i != 0,by rw [h.int]; exact ⟨rfl,q.2⟩⟩
  | str x => exact ⟨(x.length : Int) != 0,by rw [h.str]; exact ⟨⟨q.1,rfl⟩,q.2⟩⟩
  | tup xs =>
    obtain ⟨a,vs,rfl,ha,r⟩ := h.tup
    refine ⟨!xs.isEmpty,.inr (.inl ⟨vs,ha,?_⟩),q.2⟩
    cases r <;> rfl
  | ptup xs =>
    obtain ⟨a,vs,rfl,ha,_,r⟩ := Rep.ptupS h
    refine ⟨!xs.isEmpty,.inr (.inl ⟨vs,ha,?_⟩),q.2⟩
    cases r <;> rfl
  | vtup xs =>
    obtain ⟨a,vs,rfl,ha,_,r⟩ := Rep.vtupS h
    refine ⟨!xs.isEmpty,.inr (.inl ⟨vs,ha,?_⟩),q.2⟩
    cases r <;> rfl
  | lst xs =>
    obtain ⟨a,vs,rfl,ha,r⟩ := h
    refine ⟨!xs.isEmpty,.inl ⟨vs,ha.sq,?_⟩,q.2⟩
    cases r <;> rfl
  | dct xs => exact (show False from q).elim
  | dctT xs => exact (show False from q).elim
  | ref n => exact (show False from q).elim
end
end Sp
set_option autoImplicit true
namespace SoT
open PySem PyProof.Rows
section
variable {prog : Program} {w : World} {A : Around} {E : Value -> Shared -> Prop} {s : Shared}
def IsTI (h : Heap) (v : Value) (ns : List Int) : Prop := ∃ (a : Addr) (items : Array Value),v = .ref a /\ IsTup h a items /\ IntsAre items.toList ns
theorem IsTI.keeps {h h' : Heap} {v : Value} {ns : List Int} (x : IsTI h v ns) (k : ∀ b o,v = .ref b -> h.get? b = some o -> h'.get? b = some o) : IsTI h' v ns := by
  obtain ⟨a,items,e,⟨o,g,c,n,d⟩,i⟩ := x
  exact ⟨a,items,e,⟨o,k _ _ e g,c,n,d⟩,i⟩
theorem IsTI.type {M : Model} {h : Heap} {v : Value} {ns : List Int} (x : IsTI h v ns) : PySem.W.Looks M h (typeOf v) (.type "tuple") := by
  obtain ⟨a,items,rfl,⟨o,g,c,n,d⟩,i⟩ := x
  rw [<- c]
  exact (PySem.W.Looks.ld g).andThen .now
abbrev general' : SortKind := sortPriv% PySem.Builtin.KeyKind.general
theorem l8a {v u : Value} {ns ms : List Int} {Q : Bool -> Shared -> Prop} (hu : A.units < cLine) (hv : IsTI s.heap v ns) (hw : IsTI s.heap u ms) (h : Q (HT.lexLt ns ms) s) : wpAny (model prog w) A (keyLt' general' v u) Q E s := by
  obtain ⟨a,items,rfl,ga,ia⟩ := hv
  obtain ⟨b,items2,rfl,gb,ib⟩ := hw
  show wpAny (model prog w) A (oneLt' false (.ref a) (.ref b)) Q E s
  exact PySem.W.kat_one _ _ (HT.lt_tupInts ga gb ia ib hu h)
theorem l9a {v u : Value} {ns ms : List Int} {Q : Bool -> Shared -> Prop} (hu : A.units < cLine) (hv : IsTI s.heap v ns) (hw : IsTI s.heap u ms) (h : Q (HT.lexLt ns ms) s) : wpAny (model prog w) A (keyLt' oneType' v u) Q E s := by
  obtain ⟨a,items,rfl,⟨⟨cls,dd,data,sl⟩,ho,hc,n,hd⟩,ia⟩ := hv
  obtain ⟨b,items2,rfl,⟨⟨cls2,dd2,data2,sl2⟩,ho2,hc2,n2,hd2⟩,ib⟩ := hw
  simp only at hc hd hc2 hd2
  subst hc hd hc2 hd2
  rw [keyLt'_oneType,oneLt'_eq]
  simp only [if_true]
  refine wpAny_bind (wpAny_cRoomFor hu ?_)
  refine wpAny_bind (wpAny_callSpecialIfBound?_slot ⟨_,ho,rfl⟩ PySem.F.slot_tuple_lt (call_meets PySem.F.slot_tuple_lt ⟨_,ho,rfl⟩ PySem.F.entry_tuple_lt (PySem.F.args_tuple_lt_2 _ _) (HT.tuple_lt_ints a b items items2 n n2 dd dd2 sl sl2 ns ms ia ib) ⟨ho,ho2,?_⟩))
  exact wpAny_truthy_bool h
theorem oL {fin : Bool} {Q : Bool -> Shared -> Prop} : ∀ {xs ys : List Value} {ns ms : List Int} (i : Nat),IntsAre xs ns -> IntsAre ys ms -> fin = decide (ns.length < ms.length) -> Q (HT.lexLt ns ms) s -> PySem.W.KatLex prog w A true fin Q (xs.zip ys) i s
  | _,_,_,_,i,.nil,.nil,e,h => by
    rw [HT.lexLt_nil_nil] at h
    rw [e]
    exact PySem.W.kat_nil h
  | _,_,_,_,i,.nil,.cons c u r,e,h => by
    rw [HT.lexLt_nil_cons] at h
    rw [e]
    exact PySem.W.kat_nil (by rw [decide_eq_true (by simp)]; exact h)
  | _,_,_,_,i,.cons c u r,.nil,e,h => by
    rw [HT.lexLt_cons_nil] at h
    rw [e]
    exact PySem.W.kat_nil (by rw [decide_eq_false (by simp)]; exact h)
  | _,_,_,_,i,.cons (vs := xs) (ns := ns) c u r,.cons (vs := ys) (ns := ms) c' u' r',e,h => by
    rw [List.zip_cons_cons]
    rw [HT.lexLt_cons] at h
    refine PySem.W.kat_cons (SeqAt.EqAt.int_int c u c' u' prog w _ _ ?_)
    refine PySem.W.kat_go (fun e1 => ?_) (fun e1 => ?_)
    · have ex : c = c' := by simpa using e1
      rw [if_pos ex] at h
      exact PySem.W.kat_yes (oL (i + 1) r r' (by rw [e]; simp) h)
    · have ex : ¬ c = c' := by simpa using e1
      rw [if_neg ex] at h
      refine PySem.W.kat_no ?_
      cases i with
      | zero => exact oneLt_int h
      | succ i => exact PySem.W.kat_one _ _ (PyProof.Rows.lt_int h)
theorem ints_size {xs : List Value} {ns : List Int} (h : IntsAre xs ns) : xs.length = ns.length := by
  induction h with
  | nil => rfl
  | cons _ _ _ ih => rw [List.length_cons,List.length_cons,ih]
theorem mAa {v u : Value} {ns ms : List Int} {Q : Bool -> Shared -> Prop} (hv : IsTI s.heap v ns) (hw : IsTI s.heap u ms) (h : Q (HT.lexLt ns ms) s) : wpAny (model prog w) A (keyLt' (tuples' true) v u) Q E s := by
  obtain ⟨a,items,rfl,⟨o,ho,hc,n,hd⟩,ia⟩ := hv
  obtain ⟨b,items2,rfl,⟨o2,ho2,hc2,n2,hd2⟩,ib⟩ := hw
  refine PySem.W.kat_lt ho hd ho2 hd2 (oL 0 ia ib ?_ h)
  have e1 := ints_size ia
  have e2 := ints_size ib
  rw [Array.length_toList] at e1 e2
  rw [e1,e2]
theorem hZ {M : Model} {k : Value -> List Int} : ∀ (vs : List Value) {Q : List (Option Value) -> Shared -> Prop},(∀ v ∈ vs,IsTI s.heap v (k v)) ->
    (∀ fs : List (Option Value),fs.length = vs.length -> (∀ (i : Nat) (v : Value),vs[i]? = some v -> (k v = [] -> fs[i]? = some none) /\ (k v ≠ [] -> ∃ n t,fs[i]? = some (some (Value.int n t)))) -> Q fs s) -> wpAny M A (vs.mapM firstOfTuple') Q E s
  | [],_,_,h => by
    rw [List.mapM_nil]
    exact wpAny_pure (h [] rfl fun i v e => by simp at e)
  | v :: vs,Q,hv,h => by
    obtain ⟨a,items,rfl,⟨o,ho,hc,n,hd⟩,ia⟩ := hv v (List.mem_cons_self ..)
    rw [List.mapM_cons]
    refine wpAny_bind ?_
    rw [PySem.W.kas_first_eq]
    refine wpAny_bind (PySem.W.Looks.here (show PySem.W.Looks M s.heap (typeOf (.ref a)) o.cls from (PySem.W.Looks.ld ho).andThen .now) ?_)
    rw [hc,if_neg (by first | decide | simp)]
    refine wpAny_bind (listItems_at ho hd (wpAny_pure ?_))
    refine wpAny_bind (hZ vs (k := k) (Q := fun bs s' => wpAny M A (pure (items[0]? :: bs)) Q E s') (fun u hu => hv u (List.mem_cons_of_mem _ hu)) fun fs hl hf => wpAny_pure (h _ (by rw [List.length_cons,List.length_cons,hl]) fun i u e => ?_))
    cases i with
    | zero =>
      have e : Value.ref a = u := by simpa using e
      rw [<- e]
      rw [List.getElem?_cons_zero,<- Array.getElem?_toList]
      generalize k (Value.ref a) = ns at ia
      cases ia' : items.toList with
      | nil =>
        rw [ia'] at ia
        cases ia
        exact ⟨fun _ => rfl,fun q => absurd rfl q⟩
      | cons x r =>
        rw [ia'] at ia
        cases ia
        exact ⟨fun q => by simp at q,fun _ => ⟨_,_,rfl⟩⟩
    | succ i =>
      rw [List.getElem?_cons_succ]
      exact hf i u (by simpa using e)
theorem ti_sortable {a : Addr} {vs : List Value} {k : Value -> List Int} (h2 : 2 <= vs.length) (hu : A.units < cLine) (hv : ∀ v ∈ vs,IsTI s.heap v (k v)) (ha : ∀ o,s.heap.get? a = some o -> o.cls ≠ .type "tuple") : SrtO.SortableO prog w A s a vs fun v u => HT.lexLt (k v) (k u) := by
  intro h' keep
  have hv' : ∀ v ∈ vs,IsTI h' v (k v) := fun v hm => by
    obtain ⟨b,items,e,⟨o,g,c,n,d⟩,i⟩ := hv v hm
    exact ⟨b,items,e,⟨o,keep b o (fun z => by subst z; exact ha o g c) g,c,n,d⟩,i⟩
  obtain ⟨v₁,rest,rfl⟩ : ∃ v₁ rest,vs = v₁ :: rest := by
    match vs,h2 with
    | v₁ :: rest,_ => exact ⟨v₁,rest,rfl⟩
  by_cases hall : ∀ v ∈ v₁ :: rest,k v ≠ []
  · refine ⟨tuples' true,fun Q E hq => ?_,fun p q hp hq => mAa (hv' _ hp) (hv' _ hq) ⟨rfl,rfl⟩⟩
    rw [kat_kind_eq,List.mapM_toArray,map_eq_pure_bind]
    refine wpAny_bind (wpAny_bind (hZ (s := { s with heap := h' }) (k := k) _ hv' fun fs hl hf => wpAny_pure ?_))
    have hsome : ∀ x ∈ fs,∃ n t,x = some (Value.int n t) := fun x hx => by
      obtain ⟨i,hi,e⟩ := List.getElem_of_mem hx
      have hi2 : i < (v₁ :: rest).length := by omega
      obtain ⟨n,t,e2⟩ := (hf i _ (List.getElem?_eq_getElem hi2)).2 (hall _ (List.getElem_mem hi2))
      rw [List.getElem?_eq_getElem hi,e] at e2
      exact ⟨n,t,Option.some.inj e2⟩
    have hallS : (fs.toArray.all fun x => x.isSome) = true := by
      rw [List.all_toArray,List.all_eq_true]
      intro x hx
      obtain ⟨n,t,rfl⟩ := hsome x hx
      rfl
    rw [if_pos hallS]
    refine wpAny_bind (wpAny_rule ?_)
    have hfm : (fs.toArray.filterMap id) = (fs.filterMap id).toArray := by simp
    have hne : fs.filterMap id ≠ [] := by
      cases fs with
      | nil => simp at hl
      | cons x r =>
        obtain ⟨n,t,rfl⟩ := hsome x (List.mem_cons_self ..)
        simp
    have hint : ∀ v ∈ fs.filterMap id,PySem.W.Looks (model prog w) h' (typeOf v) (.type "int") := fun v hm => by
      obtain ⟨x,hx,e⟩ := List.mem_filterMap.mp hm
      obtain ⟨n,t,rfl⟩ := hsome x hx
      cases e
      exact PySem.W.Looks.now
    rw [hfm,oneTypeOnly'_eq,List.mapM_toArray,map_eq_pure_bind]
    refine wpAny_bind (wpAny_bind (wpAny_bind (PySem.W.kas_mapM (r := Value.type "int") _ (fun v hv Q' hq => (hint v hv).here hq) (wpAny_pure ?_))))
    have hall2 : ((List.map (fun _ => Value.type "int") (fs.filterMap id)).toArray.all fun x => x == Value.type "int") = true := by
      simp only [List.all_toArray,List.all_map,List.all_eq_true]
      intro _ _
      rfl
    have h0 : (List.map (fun _ => Value.type "int") (fs.filterMap id)).toArray[0]? = some (Value.type "int") := by
      cases e : fs.filterMap id with
      | nil => exact absurd e hne
      | cons x r => simp
    rw [h0]
    simp only [hall2,if_true]
    have e : (Value.type "int" != Value.type "tuple") = true := by first | decide +kernel | rfl | decide
    refine wpAny_pure (wpAny_pure ?_)
    rw [show (Option.any (fun x => x != Value.type "tuple") (some (Value.type "int"))) = true from e]
    exact hq
  · have hnot : ∀ fs : List (Option Value),fs.length = (v₁ :: rest).length -> (∀ (i : Nat) (v : Value),(v₁ :: rest)[i]? = some v -> (k v = [] -> fs[i]? = some none) /\ (k v ≠ [] -> ∃ n t,fs[i]? = some (some (Value.int n t)))) -> (fs.toArray.all fun x => x.isSome) = false := fun fs hl hf => by
      rw [List.all_toArray]
      by_cases q : fs.all (fun x => x.isSome) = true
      · exfalso
        refine hall fun v hm hk => ?_
        obtain ⟨i,hi,e⟩ := List.getElem_of_mem hm
        have e2 := (hf i v (by rw [List.getElem?_eq_getElem hi,e])).1 hk
        have := List.all_eq_true.mp q none (List.mem_of_getElem? e2)
        cases this
      · simpa using q
    by_cases h1 : k v₁ = []
    · refine ⟨oneType',fun Q E hq => ?_,fun p q hp hq => l9a hu (hv' _ hp) (hv' _ hq) ⟨rfl,rfl⟩⟩
      rw [kat_kind_eq,List.mapM_toArray,map_eq_pure_bind]
      refine wpAny_bind (wpAny_bind (hZ (s := { s with heap := h' }) (k := k) _ hv' fun fs hl hf => wpAny_pure ?_))
      rw [hnot fs hl hf]
      have e0 : fs[0]? = some none := (hf 0 v₁ rfl).1 h1
      have e1 : (fs.toArray[0]?.bind id).isSome = false := by
        rw [List.getElem?_toArray,e0]
        rfl
      rw [e1]
      simp only [Bool.false_eq_true,if_false]
      rw [oneTypeOnly'_eq,List.mapM_toArray,map_eq_pure_bind]
      refine wpAny_bind (wpAny_bind (wpAny_bind (PySem.W.kas_mapM (r := Value.type "tuple") _ (fun v hv Q' hq => (IsTI.type (hv' v hv)).here hq) (wpAny_pure ?_))))
      have hall2 : ((List.map (fun _ => Value.type "tuple") (v₁ :: rest)).toArray.all fun x => x == Value.type "tuple") = true := by
        simp only [List.all_toArray,List.all_map,List.all_eq_true]
        intro _ _
        rfl
      have h0 : (List.map (fun _ => Value.type "tuple") (v₁ :: rest)).toArray[0]? = some (Value.type "tuple") := by simp
      rw [h0]
      simp only [hall2,if_true]
      exact wpAny_pure (wpAny_pure hq)
    · refine ⟨general',fun Q E hq => ?_,fun p q hp hq => l8a hu (hv' _ hp) (hv' _ hq) ⟨rfl,rfl⟩⟩
      rw [kat_kind_eq,List.mapM_toArray,map_eq_pure_bind]
      refine wpAny_bind (wpAny_bind (hZ (s := { s with heap := h' }) (k := k) _ hv' fun fs hl hf => wpAny_pure ?_))
      rw [hnot fs hl hf]
      obtain ⟨n,t,e0⟩ := (hf 0 v₁ rfl).2 h1
      have e1 : (fs.toArray[0]?.bind id).isSome = true := by
        rw [List.getElem?_toArray,e0]
        rfl
      rw [e1]
      simp only [Bool.false_eq_true,if_false,if_true]
      exact wpAny_pure hq
end
theorem lex_asym : ∀ a b : List Int,HT.lexLt a b = true -> HT.lexLt b a = false
  | [],[],h => by cases h
  | [],_ :: _,_ => rfl
  | _ :: _,[],h => by cases h
  | x :: xs,y :: ys,h => by
    rw [HT.lexLt_cons] at h ⊢
    by_cases e : x = y
    · rw [if_pos e] at h
      rw [if_pos e.symm]
      exact lex_asym xs ys h
    · rw [if_neg e] at h
      rw [if_neg (fun q => e q.symm)]
      have := of_decide_eq_true h
      exact decide_eq_false (by omega)
theorem lex_tot : ∀ a b : List Int,HT.lexLt a b = false -> HT.lexLt b a = false -> a = b
  | [],[],_,_ => rfl
  | [],_ :: _,h,_ => by cases h
  | _ :: _,[],_,h => by cases h
  | x :: xs,y :: ys,h,g => by
    rw [HT.lexLt_cons] at h g
    by_cases e : x = y
    · rw [if_pos e] at h
      rw [if_pos e.symm] at g
      rw [e,lex_tot xs ys h g]
    · rw [if_neg e] at h
      rw [if_neg (fun q => e q.symm)] at g
      have := of_decide_eq_false h
      have := of_decide_eq_false g
      omega
theorem lex_tr : ∀ a b c : List Int,HT.lexLt b a = false -> HT.lexLt c b = false -> HT.lexLt c a = false
  | a,b,[],h,g => by
    cases a with
    | nil => rfl
    | cons x xs =>
      cases b with
      | nil => cases h
      | cons y ys => cases g
  | [],b,z :: zs,h,g => rfl
  | x :: xs,[],z :: zs,h,g => by cases h
  | x :: xs,y :: ys,z :: zs,h,g => by
    rw [HT.lexLt_cons] at h g ⊢
    by_cases e1 : y = x
    · by_cases e2 : z = y
      · rw [if_pos e1] at h
        rw [if_pos e2] at g
        rw [if_pos (e2.trans e1)]
        exact lex_tr xs ys zs h g
      · rw [if_neg e2] at g
        have := of_decide_eq_false g
        rw [if_neg (by omega)]
        exact decide_eq_false (by omega)
    · rw [if_neg e1] at h
      have := of_decide_eq_false h
      by_cases e2 : z = y
      · rw [if_neg (by omega)]
        exact decide_eq_false (by omega)
      · rw [if_neg e2] at g
        have := of_decide_eq_false g
        rw [if_neg (by omega)]
        exact decide_eq_false (by omega)
theorem lex_swo {α : Type} (k : α -> List Int) : SrtO.Swo fun v u => HT.lexLt (k v) (k u) := ⟨fun x y => lex_asym _ _,fun x y z => lex_tr _ _ _⟩
end SoT
namespace Sp
open PySem PySem.Spec PyProof.Rows L2
section
variable {X : Cx}
def rSortT (K : PySem.W.Frag) : List V -> Hp -> VK -> Prop := fun vs H Q => ∃ (a : Addr) (xs : List V) (k : V -> List Int),vs = [V.ref a] /\ SqL K H a xs /\ (∀ x ∈ xs,∃ t,x = V.ref t /\ SqT K H t ((k x).map V.int)) /\
  ∀ ys p,SrtO.Srtd (fun x y => HT.lexLt (k x) (k y)) ys -> SrtO.Stb (fun x y => HT.lexLt (k x) (k y)) ys xs -> H p = none -> Q (.ref p) (upd H p (.lst ys))
theorem cr_sortT (hu : X.A.units + 64 < cLine) : CallR X (.builtin "sorted") (rSortT X.K) := by
  intro pins s σ H vs us Q I r h
  obtain ⟨a,xs,k,rfl,hs,hx,q⟩ := h
  obtain ⟨its,rv,hl,hz⟩ := I.list hs
  obtain ⟨u,rfl,ru⟩ := vals1 r
  obtain rfl : u = Value.ref a := ru
  obtain ⟨e1,e2⟩ := refs_back rv fun x m => by
    obtain ⟨t,e,_⟩ := hx x m
    exact ⟨t,e⟩
  have hti : ∀ v ∈ its,SoT.IsTI s.heap v (k (backV v)) := fun v hv => by
    obtain ⟨t,rfl⟩ := e2 v hv
    have hm : V.ref t ∈ xs := by rw [e1]; exact List.mem_map.mpr ⟨_,hv,rfl⟩
    obtain ⟨t',e,ht⟩ := hx _ hm
    cases e
    obtain ⟨its2,r2,p2,_⟩ := I.tuple ht
    exact ⟨t,its2.toArray,rfl,p2,by
      show IntsAre its2.toArray.toList (k (V.ref t))
      simpa using intsAre_of r2⟩
  refine SrtO.sorted_ord (SoT.lex_swo (fun v => k (backV v))) hl.isList (by rw [<- rv.length]; exact hz) (fun h2 h₁ a' ha' kk => ?_) fun out h1 h2 => ?_
  · refine SoT.ti_sortable (s := { s with heap := h₁ }) h2 (by show X.A.units + 1 + 1 < cLine; omega) (fun v hm => (hti v hm).keeps fun b o _ e => (kk b o e).2) fun o e => ?_
    have e' : some o = some (seqObj "list" its.toArray 0) := e.symm.trans ha'
    cases e'
    intro c
    exact absurd (Value.type.inj c) (by decide)
  · have h3 : ∀ u ∈ out,∃ a,u = Value.ref a := fun u hu => e2 u (h2.perm.mem_iff.mp hu)
    obtain ⟨ep,he'⟩ := PyProof.Rows.sortedAll_at s.heap its out.toArray
    have hb : SrtO.Stb (fun x y => HT.lexLt (k x) (k y)) (out.map backV) xs := by
      rw [e1]
      exact SrtO.Stb.map (SoT.lex_swo k) backV h2
    refine ⟨.ref _,upd H (s.heap.objs.size + 1) (.lst (out.map backV)),I.laid (t' := s.toks) (fun _ _ => PyProof.Rows.sortedAll_old) (Nat.le_succ _) ⟨?_,out,ep,vals_back h3,he'⟩,rfl,q _ _ (SrtO.srtd_map h1) hb (I.hok.fresh (Nat.le_succ _))⟩
    rw [hb.len]
    exact hz
end
end Sp
set_option autoImplicit true
namespace SoT
open PySem PyProof.Rows Sp
theorem plt_asym (p q : List Int × Int) (h : pltB p q = true) : pltB q p = false := by
  unfold pltB at h ⊢
  by_cases e : p.1 = q.1
  · rw [if_pos e] at h
    rw [if_pos e.symm]
    have := of_decide_eq_true h
    exact decide_eq_false (by omega)
  · rw [if_neg e] at h
    rw [if_neg (fun z => e z.symm)]
    exact lex_asym _ _ h
theorem plt_tot (p q : List Int × Int) (h : pltB p q = false) (g : pltB q p = false) : p = q := by
  unfold pltB at h g
  by_cases e : p.1 = q.1
  · rw [if_pos e] at h
    rw [if_pos e.symm] at g
    have := of_decide_eq_false h
    have := of_decide_eq_false g
    exact Prod.ext e (by omega)
  · rw [if_neg e] at h
    rw [if_neg (fun z => e z.symm)] at g
    exact absurd (lex_tot _ _ h g) e
theorem plt_tr (x y z : List Int × Int) (h : pltB y x = false) (g : pltB z y = false) : pltB z x = false := by
  unfold pltB at h g ⊢
  by_cases e1 : y.1 = x.1
  · by_cases e2 : z.1 = y.1
    · rw [if_pos e1] at h
      rw [if_pos e2] at g
      rw [if_pos (e2.trans e1)]
      have := of_decide_eq_false h
      have := of_decide_eq_false g
      exact decide_eq_false (by omega)
    · rw [if_neg e2] at g
      rw [if_neg (fun q => e2 (q.trans e1.symm)),<- e1]
      exact g
  · rw [if_neg e1] at h
    by_cases e2 : z.1 = y.1
    · rw [if_neg (fun q => e1 (e2.symm.trans q)),e2]
      exact h
    · rw [if_neg e2] at g
      by_cases e3 : z.1 = x.1
      · rw [e3] at g
        exact absurd (lex_tot _ _ h g) e1
      · rw [if_neg e3]
        exact lex_tr _ _ _ h g
theorem plt_swo {α : Type} (k : α -> List Int × Int) : SrtO.Swo fun v u => pltB (k v) (k u) := ⟨fun x y => plt_asym _ _,fun x y z => plt_tr _ _ _⟩
section
variable {prog : Program} {w : World} {A : Around} {E : Value -> Shared -> Prop} {s : Shared}
def IsTP (h : Heap) (v : Value) (p : List Int × Int) : Prop := ∃ (a : Addr) (t : Value) (k : Tok),v = .ref a /\ IsTup h a #[t,.int p.2 k] /\ IsTI h t p.1
theorem IsTP.keeps {h h' : Heap} {v : Value} {p : List Int × Int} (x : IsTP h v p) (k : ∀ b o,h.get? b = some o -> o.cls = .type "tuple" -> h'.get? b = some o) : IsTP h' v p := by
  obtain ⟨a,t,tok,e,⟨o,g,c,n,d⟩,⟨b,items,e2,⟨o2,g2,c2,n2,d2⟩,i⟩⟩ := x
  exact ⟨a,t,tok,e,⟨o,k _ _ g c,c,n,d⟩,⟨b,items,e2,⟨o2,k _ _ g2 c2,c2,n2,d2⟩,i⟩⟩
theorem ints_get : ∀ {xs : List Value} {ns : List Int},IntsAre xs ns -> ∀ (j : Nat) (h : j < xs.length),∃ k t,ns[j]? = some k /\ xs[j] = Value.int k t
  | _,_,.cons (vs := xs) (ns := ns) c u r,j,h => by
    cases j with
    | zero => exact ⟨c,u,rfl,rfl⟩
    | succ j =>
      obtain ⟨k,t,e1,e2⟩ := ints_get r j (Nat.lt_of_succ_lt_succ h)
      exact ⟨k,t,e1,e2⟩
theorem mF : ∀ {xs : List Value} {ns ms : List Int},IntsAre xs ns -> IntsAre xs ms -> ns = ms
  | _,_,_,.nil,.nil => rfl
  | _,_,_,.cons c u r,.cons _ _ r' => by rw [mF r r']
theorem l7a {v u : Value} {ns ms : List Int} (hu : A.units < cLine) (hv : IsTI s.heap v ns) (hw : IsTI s.heap u ms) : SeqAt.EqAt A s v u (decide (ns = ms)) := by
  obtain ⟨a,items,rfl,ga,ia⟩ := hv
  obtain ⟨b,items2,rfl,gb,ib⟩ := hw
  by_cases e : a = b
  · subst e
    obtain ⟨o,ho,hc,n,hd⟩ := ga
    obtain ⟨o2,ho2,hc2,n2,hd2⟩ := gb
    rw [ho] at ho2
    cases ho2
    rw [hd] at hd2
    cases hd2
    rw [decide_eq_true (mF ia ib)]
    exact SeqAt.EqAt.same _
  · refine SeqAt.EqAt.of_refs e ?_
    have h1 := ints_size ia
    have h2 := ints_size ib
    rw [Array.length_toList] at h1 h2
    have := SeqAt.RcAt.tuples (A := A) (s := s) (e := fun j => ns[j]?.getD 0 == ms[j]?.getD 0) ga gb hu (fun j j1 j2 => by
      obtain ⟨k,t,e1,e2⟩ := ints_get ia j (by simpa using j1)
      obtain ⟨k2,t2,e3,e4⟩ := ints_get ib j (by simpa using j2)
      have e2 : items[j] = Value.int k t := by simpa using e2
      have e4 : items2[j] = Value.int k2 t2 := by simpa using e4
      rw [e1,e3,e2,e4]
      exact SeqAt.EqAt.int_int k t k2 t2)
    have eb : ((List.range (min items.size items2.size)).all (fun j => ns[j]?.getD 0 == ms[j]?.getD 0) && items.size == items2.size) = decide (ns = ms) := by
      rw [h1,h2,Bool.eq_iff_iff,Bool.and_eq_true,decide_eq_true_eq,List.all_eq_true,beq_iff_eq]
      constructor
      · rintro ⟨z1,z2⟩
        refine List.ext_getElem z2 fun j g1 g2 => ?_
        have := z1 j (List.mem_range.mpr (by omega))
        rw [List.getElem?_eq_getElem g1,List.getElem?_eq_getElem g2] at this
        exact beq_iff_eq.mp this
      · rintro rfl
        exact ⟨fun j _ => by simp,rfl⟩
    rw [eb] at this
    exact this
theorem mBa {v u : Value} {p q : List Int × Int} {Q : Bool -> Shared -> Prop} (hu : A.units < cLine) (hv : IsTP s.heap v p) (hw : IsTP s.heap u q) (h : Q (pltB p q) s) : wpAny (model prog w) A (keyLt' (tuples' false) v u) Q E s := by
  obtain ⟨a,t,tk,rfl,⟨o,ho,hc,n,hd⟩,it⟩ := hv
  obtain ⟨b,t2,tk2,rfl,⟨o2,ho2,hc2,n2,hd2⟩,it2⟩ := hw
  refine PySem.W.kat_lt ho hd ho2 hd2 ?_
  show PySem.W.KatLex prog w A false false Q [(t,t2),(.int p.2 tk,.int q.2 tk2)] 0 s
  refine PySem.W.kat_cons (l7a hu it it2 prog w _ _ ?_)
  refine PySem.W.kat_go (fun e1 => ?_) (fun e1 => ?_)
  · have e1 : p.1 = q.1 := of_decide_eq_true e1
    refine PySem.W.kat_yes (PySem.W.kat_cons (SeqAt.EqAt.int_int _ _ _ _ prog w _ _ ?_))
    unfold pltB at h
    rw [if_pos e1] at h
    refine PySem.W.kat_go (fun e2 => PySem.W.kat_yes (PySem.W.kat_nil ?_)) (fun e2 => PySem.W.kat_no (PySem.W.kat_one _ _ (PyProof.Rows.lt_int h)))
    have e2 : p.2 = q.2 := by simpa using e2
    rw [decide_eq_false (by omega)] at h
    exact h
  · have e1 : ¬ p.1 = q.1 := of_decide_eq_false e1
    unfold pltB at h
    rw [if_neg e1] at h
    obtain ⟨a,items,rfl,ga,ia⟩ := it
    obtain ⟨b,items2,rfl,gb,ib⟩ := it2
    exact PySem.W.kat_no (PySem.W.kat_one _ _ (HT.lt_tupInts ga gb ia ib hu h))
theorem tp_sortable {a : Addr} {vs : List Value} {k : Value -> List Int × Int} (h2 : 2 <= vs.length) (hu : A.units < cLine) (hv : ∀ v ∈ vs,IsTP s.heap v (k v)) (ha : ∀ o,s.heap.get? a = some o -> o.cls ≠ .type "tuple") : SrtO.SortableO prog w A s a vs fun v u => pltB (k v) (k u) := by
  intro h' keep
  have hv' : ∀ v ∈ vs,IsTP h' v (k v) := fun v hm => (hv v hm).keeps fun b o g c => keep b o (fun z => by subst z; exact ha o g c) g
  refine ⟨tuples' false,fun Q E hq => ?_,fun p q hp hq => mBa hu (hv' _ hp) (hv' _ hq) ⟨rfl,rfl⟩⟩
  have key : ∀ vs : List Value,(∀ v ∈ vs,IsTP h' v (k v)) -> ∃ fs,PySem.W.KatTups h' vs fs /\ fs.length = vs.length /\ ∀ f ∈ fs,∃ ns,IsTI h' f ns := fun vs => by
    induction vs with
    | nil => exact fun _ => ⟨[],trivial,rfl,fun f h => nomatch h⟩
    | cons v r ih =>
      intro h
      obtain ⟨fs,f1,f2,f3⟩ := ih fun u hu => h u (List.mem_cons_of_mem _ hu)
      obtain ⟨a,t,tk,e,⟨o,ho,hc,n,hd⟩,it⟩ := h v (List.mem_cons_self ..)
      refine ⟨t :: fs,⟨⟨a,o,_,n,e,ho,hc,hd,rfl⟩,f1⟩,by rw [List.length_cons,List.length_cons,f2],fun f hf => ?_⟩
      rcases List.mem_cons.mp hf with z | z
      · rw [z]
        exact ⟨_,it⟩
      · exact f3 f z
  obtain ⟨fs,f1,f2,f3⟩ := key vs hv'
  refine PySem.W.kat_kind (s := { s with heap := h' }) f1 (by omega) (T := Value.type "tuple") (fun f hf => ?_) (by first | rfl | decide +kernel) ?_
  · obtain ⟨ns,hi⟩ := f3 f hf
    exact hi.type
  · rw [show (Value.type "tuple" != Value.type "tuple") = false from by first | rfl | decide +kernel]
    exact hq
theorem bIa {l : Addr} {vs : List Value} {Q : List Value -> Shared -> Prop} (hl : IsTup s.heap l vs.toArray)
    (h : Q vs { s with heap := (s.heap.push (seqObj "list" #[] 0)).update s.heap.objs.size (Obj.mapSeq (· ++ vs.toArray)) }) (hsz : vs.length <= sizeLine) :
    wpAny (model prog w) A (collect (.ref l)) Q E s := by
  obtain ⟨o,ho,hc,n,hd⟩ := id hl
  unfold collect
  refine wpAny_bind (wpAny_runValue (codeAny_builtin entry_proto_collect' ?_))
  show wpAny _ _ (do again (.builtin "list.__iadd__" ⟨[<- newList [],.ref l],[]⟩)) _ _ s
  refine wpAny_bind (wpAny_newList (wpAny_pure ⟨Code.quiet_builtin _ (by decide +kernel),codeAny_builtin entry_list_iadd' ?_⟩))
  show wpAny _ _ (Builtin.List.listExtendWith (.ref s.heap.objs.size) (.ref l) (.ref s.heap.objs.size)) _ _ { s with heap := s.heap.push (seqObj "list" #[] 0) }
  unfold Builtin.List.listExtendWith
  have ho' : (s.heap.push (seqObj "list" #[] 0)).get? l = some o := Heap.get?_push_of_some _ ho
  refine wpAny_bind (wpAny_typeOf (T := "tuple") ⟨o,ho',hc⟩ ?_)
  have ht : (Value.type "tuple" == Value.type "tuple") = true := by rfl
  rw [if_pos (by rw [ht]; simp)]
  refine wpAny_bind (listItems_at ho' hd ?_)
  refine wpAny_bind (listItems_at (xs := #[]) (n := 0) (Heap.get?_push_size _ rfl) rfl ?_)
  rw [if_neg (by simp)]
  refine wpAny_bind (listUpdate_at (xs := #[]) (n := 0) (Heap.get?_push_size _ rfl) rfl ?_ (Nat.zero_le _) (by show (#[] ++ vs.toArray).size <= sizeLine + 1; simp only [Array.size_append,List.size_toArray,List.length_nil]; omega))
  refine wpAny_pure ?_
  show wpAny (model prog w) A (do
      let o <- load s.heap.objs.size
      match o.data with
      | .seq xs _ => pure xs.toList
      | _ => unsupported "internal:collect") Q E { s with heap := (s.heap.push (seqObj "list" #[] 0)).update s.heap.objs.size (Obj.mapSeq (· ++ vs.toArray)) }
  refine wpAny_bind (wpAny_load (get?_update_seq (Heap.get?_push_size _ rfl) _) ?_)
  show wpAny _ _ (pure ((#[] : Array Value) ++ vs.toArray).toList) Q E _
  rw [show ((#[] : Array Value) ++ vs.toArray).toList = vs by simp]
  exact wpAny_pure h
open SrtO in
theorem sorted_ordT {l : Addr} {vs : List Value} {ltv : Value -> Value -> Bool} {Q : Value -> Shared -> Prop} (O : Swo ltv) (hl : IsTup s.heap l vs.toArray) (hz : vs.length <= sizeLine)
    (hS : 2 <= vs.length -> ∀ (h₁ : Heap) (a : Addr),h₁.get? a = some (seqObj "list" vs.toArray 0) -> (∀ b o,s.heap.get? b = some o -> b ≠ a /\ h₁.get? b = some o) -> SortableO prog w A.in1.in1 { s with heap := h₁ } a vs ltv)
    (h : ∀ out : List Value,Srtd ltv out -> Stb ltv out vs -> Q (.ref (s.heap.objs.size + 1)) { s with heap := sortedAll s.heap vs out.toArray }) :
    wpAny (model prog w) A (call (.builtin "sorted") [.ref l]) Q E s := by
  refine Calls.call_function_entry kind_sorted plain_sorted entry_sorted (args_sorted1 _) ?_
  unfold Builtin.«sorted»
  refine wpAny_bind (m := checkCount "sorted" 1 1 _) (wpAny_pure ?_)
  refine wpAny_bind (bIa hl ?_ hz)
  refine wpAny_bind (wpAny_newList ?_ hz)
  have hsz : ((s.heap.push (seqObj "list" #[] 0)).update s.heap.objs.size (Obj.mapSeq (· ++ vs.toArray))).objs.size = s.heap.objs.size + 1 := by
    rw [Heap.size_update,size_push']
  have hoL : (((s.heap.push (seqObj "list" #[] 0)).update s.heap.objs.size (Obj.mapSeq (· ++ vs.toArray))).push (seqObj "list" vs.toArray 0)).get? (s.heap.objs.size + 1) = some (seqObj "list" vs.toArray 0) := by
    rw [<- hsz]; exact Heap.get?_push_size _ rfl
  have keep : ∀ b o,s.heap.get? b = some o -> b ≠ s.heap.objs.size + 1 /\ (((s.heap.push (seqObj "list" #[] 0)).update s.heap.objs.size (Obj.mapSeq (· ++ vs.toArray))).push (seqObj "list" vs.toArray 0)).get? b = some o := fun b o q => by
    have hlt : b < s.heap.objs.size := Heap.lt_size q
    refine ⟨Nat.ne_of_lt (Nat.lt_succ_of_lt hlt),Heap.get?_push_of_some _ ?_⟩
    rw [Heap.get?_update_ne _ _ _ _ (Nat.ne_of_lt hlt)]
    exact Heap.get?_push_of_some _ q
  show wpAny _ _ _ _ _ { s with heap := ((s.heap.push (seqObj "list" #[] 0)).update s.heap.objs.size (Obj.mapSeq (· ++ vs.toArray))).push (seqObj "list" vs.toArray 0) }
  rw [hsz]
  refine wpAny_bind (wpAny_holding (wpAny_call_entry slot_list_sort ⟨_,hoL,rfl⟩ entry_list_sort (list_sort_ord O hoL hz (fun h2 => hS h2 _ _ hoL keep) fun out hs hb => ⟨_,rfl,?_⟩) (args_list_sort _)))
  exact wpAny_pure ⟨_,rfl,h out hs hb⟩
end
end SoT
namespace Sp
open PySem PySem.Spec PyProof.Rows L2
section
variable {X : Cx}
def rSortP (K : PySem.W.Frag) : List V -> Hp -> VK -> Prop := fun vs H Q => ∃ (a : Addr) (xs : List V) (k : V -> List Int × Int),vs = [V.ref a] /\ SqT K H a xs /\ (∀ x ∈ xs,∃ t u,x = V.ref t /\ SqT K H t [V.ref u,V.int (k x).2] /\ SqT K H u ((k x).1.map V.int)) /\
  ∀ ys p,SrtO.Srtd (fun x y => pltB (k x) (k y)) ys -> SrtO.Stb (fun x y => pltB (k x) (k y)) ys xs -> H p = none -> Q (.ref p) (upd H p (.lst ys))
theorem bXa (hu : X.A.units + 64 < cLine) : CallR X (.builtin "sorted") (rSortP X.K) := by
  intro pins s σ H vs us Q I r h
  obtain ⟨a,xs,k,rfl,hs,hx,q⟩ := h
  obtain ⟨its,rv,hl,hz⟩ := I.tuple hs
  obtain ⟨u,rfl,ru⟩ := vals1 r
  obtain rfl : u = Value.ref a := ru
  obtain ⟨e1,e2⟩ := refs_back rv fun x m => by
    obtain ⟨t,_,e,_⟩ := hx x m
    exact ⟨t,e⟩
  have hti : ∀ v ∈ its,SoT.IsTP s.heap v (k (backV v)) := fun v hv => by
    obtain ⟨t,rfl⟩ := e2 v hv
    have hm : V.ref t ∈ xs := by rw [e1]; exact List.mem_map.mpr ⟨_,hv,rfl⟩
    obtain ⟨t',w,e,ht,hw⟩ := hx _ hm
    cases e
    obtain ⟨its2,r2,p2,_⟩ := I.tuple ht
    obtain ⟨its3,r3,p3,_⟩ := I.tuple hw
    cases r2 with
    | cons ra rb =>
      cases rb with
      | cons rc rd =>
        cases rd
        obtain rfl := (show _ = Value.ref w from ra)
        obtain ⟨tk,rfl⟩ := (show ∃ tk,_ = Value.int (k (V.ref t)).2 tk from rc)
        exact ⟨t,Value.ref w,tk,rfl,p2,w,its3.toArray,rfl,p3,by
          show IntsAre its3.toArray.toList (k (V.ref t)).1
          simpa using intsAre_of r3⟩
  refine SoT.sorted_ordT (SoT.plt_swo (fun v => k (backV v))) hl (by rw [<- rv.length]; exact hz) (fun h2 h₁ a' ha' kk => ?_) fun out h1 h2 => ?_
  · refine SoT.tp_sortable (s := { s with heap := h₁ }) h2 (by show X.A.units + 1 + 1 < cLine; omega) (fun v hm => (hti v hm).keeps fun b o e _ => (kk b o e).2) fun o e => ?_
    have e' : some o = some (seqObj "list" its.toArray 0) := e.symm.trans ha'
    cases e'
    intro c
    exact absurd (Value.type.inj c) (by decide)
  · have h3 : ∀ u ∈ out,∃ a,u = Value.ref a := fun u hu => e2 u (h2.perm.mem_iff.mp hu)
    obtain ⟨ep,he'⟩ := PyProof.Rows.sortedAll_at s.heap its out.toArray
    have hb : SrtO.Stb (fun x y => pltB (k x) (k y)) (out.map backV) xs := by
      rw [e1]
      exact SrtO.Stb.map (SoT.plt_swo k) backV h2
    refine ⟨.ref _,upd H (s.heap.objs.size + 1) (.lst (out.map backV)),I.laid (t' := s.toks) (fun _ _ => PyProof.Rows.sortedAll_old) (Nat.le_succ _) ⟨?_,out,ep,vals_back h3,he'⟩,rfl,q _ _ (SrtO.srtd_map h1) hb (I.hok.fresh (Nat.le_succ _))⟩
    rw [hb.len]
    exact hz
end
end Sp
set_option autoImplicit true
namespace RtT
open PySem PySem.Spec PyProof.Rows RT L2
theorem f8a : typeLookup (.type "reversed") "__len__" = pure none := by rw [typeLookup_type,builtinLookup_eq_fast]; kernel_rfl
theorem eTa : typeLookup (.type "reversed") "__length_hint__" = pure (some (.builtin "reversed.__length_hint__")) := by rw [typeLookup_type,builtinLookup_eq_fast]; kernel_rfl
theorem lNa : Slot "reversed" "__length_hint__" "reversed.__length_hint__" :=
  .of (owner := "reversed") (n := "__length_hint__") (by rw [typeLookup_type,builtinLookup_eq_fast]; kernel_rfl) (by decide +kernel) (by decide +kernel) (by decide +kernel)
    (by first | exact .inl (by decide +kernel) | exact .inr (by decide +kernel)) (by rw [isSubtype_type]; kernel_rfl)
theorem b6a : entryFor table "reversed.__length_hint__" = some Builtin.«reversed.__length_hint__» := entryFor_of_tree (by kernel_rfl)
theorem aUa (a : Value) : argsOk "reversed.__length_hint__" ⟨[a],[]⟩ := by
  unfold argsOk; rw [signature?_of (id := "reversed.__length_hint__") (n := ['_','_','t','n','i','h','_','h','t','g','n','e','l','_','_']) (o := ['d','e','s','r','e','v','e','r']) (by kernel_rfl) owner_rt]; kernel_rfl
theorem e5a : builtinKind "reversed.__length_hint__" = some .method := by decide +kernel
theorem a7a (self : Value) : bindSpecial (.builtin "reversed.__length_hint__") self = pure (.builtin "reversed.__length_hint__",[self]) := by
  have hop : withoutEnding? "reversed.__length_hint__" "#opaque" = none := by decide +kernel
  have hdat : withoutEnding? "reversed.__length_hint__" "#data" = none := by decide +kernel
  simp only [bindSpecial,typeOf,builtinType,hop,hdat,e5a]; rfl
section
variable {prog : Program} {w : World} {A : Around} {E : Value -> Shared -> Prop} {s : Shared}
theorem bCa {it t : Addr} {items : Array Value} {Q : Value -> Shared -> Prop} (hit : IsRt s.heap it t ((items.size : Int) - 1)) (ht : IsTup s.heap t items) (hfit : (items.size : Int) < 2 ^ 63)
    (h : ∀ tk tk2,Q (.int items.size tk) { s with toks := tk2 }) : wpAny (model prog w) A (call (.builtin "reversed.__length_hint__") [.ref it]) Q E s := by
  obtain ⟨o,ho,hc,hd⟩ := id hit
  refine wpAny_call_entry lNa hit.typeIs b6a ?_ (aUa _)
  unfold Builtin.«reversed.__length_hint__»
  refine wpAny_bind (wpAny_of_eq (a := Value.ref it) rfl ?_)
  refine wpAny_bind (wpAny_field ho hd (x := .ref t) rfl ?_)
  rw [if_neg (by rw [show (Value.ref t == Value.none) = false from rfl]; decide)]
  refine wpAny_bind (len_tuple ht hfit ?_)
  refine wpAny_bind (wpAny_of_eq (a := some ((items.size : Nat) : Int)) rfl ?_)
  try dsimp only
  refine wpAny_bind (wpAny_field (s := { s with toks := s.toks + 1 + 1 }) ho hd (x := rawInt ((items.size : Int) - 1)) rfl ?_)
  show wpAny _ _ (if ((items.size : Nat) : Int) < (items.size : Int) - 1 + 1 then _ else _) _ _ _
  rw [if_neg (by omega)]
  refine wpAny_bind (wpAny_mkInt ?_)
  refine wpAny_pure ⟨_,rfl,?_⟩
  rw [show ((items.size : Int) - 1 + 1) = ((items.size : Nat) : Int) by omega]
  exact h _ _
end
theorem lDa {k : Nat} (hfit : (k : Int) < 2 ^ 63) : ¬ (!Builtin.List.listFitsIndex ((k : Nat) : Int)) = true := by
  unfold Builtin.List.listFitsIndex
  rw [decide_eq_true (by omega),decide_eq_true hfit]
  decide
theorem lEa {k : Nat} (hn : k <= sizeLine) : ¬ Builtin.List.listTooLong ((k : Nat) : Int).toNat = true := by
  unfold Builtin.List.listTooLong
  rw [Int.toNat_natCast,decide_eq_false (by omega)]
  decide
theorem walksRt {prog : Program} {w : World} {A : Around} (hh : A.handled = none) (I l : Addr) (hne : l ≠ I) (items : Array Value) (hn : items.size <= sizeLine) :
    Walks prog w A I [I,l] [I] items.size (fun i v => items[items.size - 1 - i]? = some v) (fun i h => i <= items.size /\ IsRt h I l ((items.size : Int) - 1 - (i : Int)) /\ IsTup h l items) where
  sub := fun b hb => by simp at hb; simp [hb]
  frame := fun _ _ _ x hk => ⟨x.1,x.2.1.at fun o e => hk I (by simp) o e,by
    obtain ⟨o,ho,r⟩ := x.2.2
    exact ⟨o,hk l (by simp) o ho,r⟩⟩
  item := fun i s Q E hi x hQ => by
    have e : (items.size : Int) - 1 - (i : Int) = ((items.size - 1 - i : Nat) : Int) := by omega
    have hit := x.2.1
    rw [e] at hit
    have hx : items[items.size - 1 - i]? = some (items[items.size - 1 - i]'(by omega)) := Array.getElem?_eq_getElem (by omega)
    refine next_rt_item hit x.2.2 hx hn fun h' hit' hs' => ?_
    have e2 : ((items.size - 1 - i : Nat) : Int) - 1 = (items.size : Int) - 1 - ((i + 1 : Nat) : Int) := by omega
    rw [e2] at hit'
    exact hQ _ h' (s.toks + 1) hx ⟨hi,hit',by
      obtain ⟨o,ho,r⟩ := x.2.2
      exact ⟨o,(hs'.2 l hne).trans ho,r⟩⟩ fun b o hb eo => hs'.extBut b o (fun h => hb (by simp [h])) eo
  done := fun s Q E x hQ => by
    have e : (items.size : Int) - 1 - (items.size : Int) = -1 := by omega
    have hit := x.2.1
    rw [e] at hit
    exact next_rt_end hh hit fun h' he' => hQ h' s.toks fun b o hb eo => he' b o (fun h => hb (by simp [h])) eo
  self := fun _ _ _ _ x hQ => iter_rt x.2.1 hQ
section
variable {prog : Program} {w : World} {A : Around} {E : Value -> Shared -> Prop} {s : Shared}
theorem bHa {it l : Addr} {items : Array Value} {Q : List Value -> Shared -> Prop} (hfit : (items.size : Int) < 2 ^ 63) (hh : A.handled = none) (hit : IsRt s.heap it l ((items.size : Int) - 1)) (hl : IsTup s.heap l items) (hne : l ≠ it) (hn : items.size <= sizeLine)
    (hQ : ∀ (h' : Heap) (tk : Nat) (acc : Array Value),(∀ b o,b ≠ it -> s.heap.get? b = some o -> h'.get? b = some o) -> ItemsOf (fun i v => items[items.size - 1 - i]? = some v) acc items.size -> Q acc.toList { s with heap := h',toks := tk }) :
    wpAny (model prog w) A (collect (.ref it)) Q E s := by
  have W := (walksRt (prog := prog) (w := w) (A := A.in1) hh it l hne items hn).toS
  obtain ⟨oi,hoi,_⟩ := id hit
  obtain ⟨ol,hol,hlc⟩ := id hl
  have hSi : s.heap.objs.size ≠ it := Nat.ne_of_gt (Heap.lt_size hoi)
  have hSl : s.heap.objs.size ≠ l := Nat.ne_of_gt (Heap.lt_size hol)
  have hSf : s.heap.objs.size ∉ [it,l] := by simp only [List.mem_cons,List.not_mem_nil,or_false,not_or]; exact ⟨hSi,hSl⟩
  unfold collect
  refine wpAny_bind (wpAny_runValue (codeAny_builtin F.entry_proto_collect ?_))
  rw [Around.under_plainId F.plain_proto_collect _]
  show wpAny _ A.in1 (newList [] >>= fun l' => again (.builtin "list.__iadd__" ⟨[l',.ref it],[]⟩)) _ _ s
  refine wpAny_bind (wpAny_newObj_type ?_)
  refine wpAny_pure ⟨plainId_quiet F.plain_list_iadd _,codeAny_builtin F.entry_list_iadd ?_⟩
  rw [Around.under_plainId F.plain_list_iadd _]
  have hS₁ : (s.heap.push { cls := .type "list",data := .seq ([] : List Value).toArray }).get? s.heap.objs.size = some { cls := .type "list",data := .seq ([] : List Value).toArray } := Heap.get?_push_size _ rfl
  have hit1 : IsRt (s.heap.push { cls := .type "list",data := .seq ([] : List Value).toArray }) it l ((items.size : Int) - 1) := hit.at fun o e => Heap.get?_push_of_some _ e
  have hl1 : IsTup (s.heap.push { cls := .type "list",data := .seq ([] : List Value).toArray }) l items := ⟨ol,Heap.get?_push_of_some _ hol,hlc⟩
  have hT : ({ s with heap := s.heap.push { cls := .type "list",data := .seq ([] : List Value).toArray } } : Shared).TypeIs (.ref it) "reversed" := IsRt.typeIs (s := { s with heap := s.heap.push { cls := .type "list",data := .seq ([] : List Value).toArray } }) hit1
  have h1 : Builtin.List.listSameRef (.ref s.heap.objs.size) (.ref it) = false := by simp [Builtin.List.listSameRef,hSi]
  show wpAny _ A.in1 (Builtin.List.listExtendWith (.ref s.heap.objs.size) (.ref it) (.ref s.heap.objs.size)) _ _ _
  unfold Builtin.List.listExtendWith
  refine wpAny_bind (wpAny_typeOf hT ?_)
  rw [if_neg (by rw [h1]; decide)]
  refine wpAny_bind (iter_rt (s := { s with heap := s.heap.push { cls := .type "list",data := .seq ([] : List Value).toArray } }) hit1 ?_)
  refine wpAny_bind (wpAny_holding ?_)
  unfold Builtin.List.listLengthHint
  refine wpAny_bind (wpAny_specialOf hT f8a ?_)
  show wpAny _ A.in1 (specialOf (Value.ref it) (Str.ofString "__length_hint__") >>= _) _ _ _
  refine wpAny_bind (wpAny_specialOf hT eTa ?_)
  generalize hid : ("reversed.__length_hint__" : String) = id0
  wp_delta
  rw [show splitId id0 = some ("reversed","__length_hint__") from by subst hid; decide +kernel]
  subst hid
  refine wpAny_bind (wpAny_isInstance (b := true) hT (by rw [isSubtype_type]; kernel_rfl) ?_)
  show wpAny _ A.in1 (rule "list.length-hint.hint" >>= fun _ => bindSpecial (.builtin "reversed.__length_hint__") (.ref it) >>= _) _ _ _
  refine wpAny_bind (wpAny_rule ?_)
  rw [a7a]
  refine wpAny_bind (wpAny_pure ?_)
  try dsimp only
  refine wpAny_bind ?_
  refine wpAny_attempt ?_
  have key := fun (Q : Value -> Shared -> Prop) (E : Value -> Shared -> Prop) => bCa (prog := prog) (w := w) (A := A.in1) (E := E) (Q := Q) (s := { s with heap := s.heap.push { cls := .type "list",data := .seq ([] : List Value).toArray } }) hit1 hl1 hfit
  refine key _ _ fun tk tk2 => ?_
  have hS₁ : (s.heap.push { cls := .type "list",data := .seq ([] : List Value).toArray }).get? s.heap.objs.size = some { cls := .type "list",data := .seq ([] : List Value).toArray } := Heap.get?_push_size _ rfl
  have hm : asInt? (Value.int ((items.size : Nat) : Int) tk) = pure (some ((items.size : Nat) : Int)) := rfl
  dsimp only
  rw [hm,pure_bind]
  dsimp only
  rw [if_neg (lDa hfit),if_neg (by omega),if_neg (lEa hn)]
  refine wpAny_pure ?_
  have e0 : ((items.size : Nat) : Int) - 1 - ((0 : Nat) : Int) = (items.size : Int) - 1 := by omega
  by_cases h0 : ((items.size : Nat) : Int) = 0
  · rw [show (((items.size : Nat) : Int) != 0) = false by rw [h0]; rfl]
    rw [if_neg (by decide)]
    refine wpAny_pure ⟨plainId_quiet F.plain_extend_loop _,codeAny_extend_loopS W hn _ hSf _ items.size 0 _ _ _ rfl (Nat.zero_le _) ⟨Nat.zero_le _,by rw [e0]; exact hit1,hl1⟩ hS₁ (ItemsOf.nil _) fun s' acc' c' hm hS' hacc => ?_⟩
    show wpAny _ A (load s.heap.objs.size >>= _) _ _ s'
    refine wpAny_bind (wpAny_load hS' ?_)
    refine wpAny_pure ?_
    rw [Moved.eq_with hm]
    refine hQ s'.heap s'.toks acc' (fun b o hb e => hm.heap b o (fun hmem => ?_) (Heap.get?_push_of_some _ e)) hacc
    rcases List.mem_cons.mp hmem with e' | hmem
    · exact absurd (Heap.lt_size e) (by rw [e']; exact Nat.lt_irrefl _)
    · exact hb (List.mem_singleton.mp hmem)
  · rw [show (((items.size : Nat) : Int) != 0) = true by simpa using h0]
    rw [if_pos (by rfl)]
    refine wpAny_bind (wpAny_rule ?_)
    refine wpAny_bind ?_
    show wpAny _ A.in1 (updateSeq s.heap.objs.size (·.push .none) >>= fun _ => updateSeq s.heap.objs.size (·.pop)) _ _ _
    refine wpAny_bind (wpAny_updateSeq hS₁ rfl ?_)
    have hS₂ := Heap.get?_update_self (Obj.mapSeq (·.push Value.none)) hS₁ rfl
    refine wpAny_updateSeq hS₂ rfl ?_
    have hS₃ := Heap.get?_update_self (Obj.mapSeq (·.pop)) hS₂ rfl
    have oth : ∀ b o,b ≠ s.heap.objs.size -> (s.heap.push { cls := .type "list",data := .seq ([] : List Value).toArray }).get? b = some o ->
        (((s.heap.push { cls := .type "list",data := .seq ([] : List Value).toArray }).update s.heap.objs.size (Obj.mapSeq (·.push Value.none))).update s.heap.objs.size (Obj.mapSeq (·.pop))).get? b = some o :=
      fun b o hb e => (Heap.get?_update_other _ _ (Ne.symm hb)).trans ((Heap.get?_update_other _ _ (Ne.symm hb)).trans e)
    refine wpAny_pure ⟨plainId_quiet F.plain_extend_loop _,codeAny_extend_loopS W hn _ hSf _ items.size 0 _ _ _ rfl (Nat.zero_le _) ⟨Nat.zero_le _,by rw [e0]; exact hit1.at fun o e => oth _ _ (Ne.symm hSi) e,by
      obtain ⟨o,ho,r⟩ := hl1
      exact ⟨o,oth _ _ (Ne.symm hSl) ho,r⟩⟩ hS₃ (ItemsOf.nil _) fun s' acc' c' hm hS' hacc => ?_⟩
    show wpAny _ A (load s.heap.objs.size >>= _) _ _ s'
    refine wpAny_bind (wpAny_load hS' ?_)
    refine wpAny_pure ?_
    rw [Moved.eq_with hm]
    refine hQ s'.heap s'.toks acc' (fun b o hb e => hm.heap b o (fun hmem => ?_) (oth b o (Nat.ne_of_lt (Heap.lt_size e)) (Heap.get?_push_of_some _ e))) hacc
    rcases List.mem_cons.mp hmem with e' | hmem
    · exact absurd (Heap.lt_size e) (by rw [e']; exact Nat.lt_irrefl _)
    · exact hb (List.mem_singleton.mp hmem)
theorem bGa {it l : Addr} {items : Array Value} {Q₁ : Value -> Shared -> Prop} (hfit : (items.size : Int) < 2 ^ 63) (hh : A.handled = none) (hit : IsRt s.heap it l ((items.size : Int) - 1)) (hl : IsTup s.heap l items) (hne : l ≠ it) (hn : items.size <= sizeLine)
    (h : ∀ (h' : Heap) (tk : Nat) (acc : Array Value),(∀ b o,b ≠ it -> s.heap.get? b = some o -> h'.get? b = some o) -> ItemsOf (fun i v => items[items.size - 1 - i]? = some v) acc items.size ->
      Q₁ (.ref h'.objs.size) { s with heap := h'.push { cls := .type "tuple",data := .seq acc },toks := tk }) :
    codeAny (model prog w) A (.call (.builtin "tuple.__new__") ⟨[.type "tuple",.ref it],[]⟩) (wants Q₁ E) s := by
  refine codeAny_of_tree ?_
  show wpAny _ A.in1 (do checkBuiltinCall "tuple.__new__" ⟨[.type "tuple",.ref it],[]⟩; again (.builtin "tuple.__new__" ⟨[.type "tuple",.ref it],[]⟩)) _ _ s
  refine wpAny_bind (wpAny_of_eq (F.newCall_tuple_1 _) (wpAny_pure ⟨plainId_quiet F.plain_tuple_new _,codeAny_builtin F.entry_tuple_new ?_⟩))
  rw [Around.under_plainId F.plain_tuple_new _]
  have hsub := sub_tuple_self
  have hinit := init_tuple_lookup
  have hmh := madeHere_tuple
  have hTI : s.TypeIs (.ref it) "reversed" := hit.typeIs
  have hh1 : A.in1.handled = none := hh
  wp_walk using wpAny_typeOf hTI,bHa (A := A.in1) hfit hh1 hit hl hne hn
  intro h' tk acc hk hacc
  show wpAny _ _ (Builtin.Tuple.tupleExact acc.toList.toArray >>= fun v => ret v) _ _ _
  unfold Builtin.Tuple.tupleExact
  refine wpAny_bind (wpAny_newObj_type ?_ (by show acc.toList.toArray.size <= sizeLine; simp only [Array.toArray_toList]; rw [hacc.1]; exact hn))
  refine wpAny_pure ?_
  have e : acc.toList.toArray = acc := by simp
  rw [e]
  exact h h' tk acc hk hacc
theorem bDa {it l : Addr} {items : Array Value} {Q : Value -> Shared -> Prop} (hfit : (items.size : Int) < 2 ^ 63) (hh : A.handled = none) (hit : IsRt s.heap it l ((items.size : Int) - 1)) (hl : IsTup s.heap l items) (hne : l ≠ it) (hn : items.size <= sizeLine)
    (hQ : ∀ (h' : Heap) (tk : Nat) (acc : Array Value),(∀ b o,b ≠ it -> s.heap.get? b = some o -> h'.get? b = some o) -> ItemsOf (fun i v => items[items.size - 1 - i]? = some v) acc items.size ->
      Q (.ref h'.objs.size) { s with heap := h'.push { cls := .type "tuple",data := .seq acc },toks := tk }) :
    wpAny (model prog w) A (call (.type "tuple") [.ref it]) Q E s := by
  refine callType_codes (Q₁ := fun obj s₁ => s₁.TypeIs obj "tuple" /\ Q obj s₁) F.called_tuple (F.typeCall_tuple_1 _) F.entry_object_init
    (bGa (A := A.in1) hfit hh hit hl hne hn fun h' tk acc hk hacc => ⟨⟨_,Heap.get?_push_size _ rfl,rfl⟩,hQ h' tk acc hk hacc⟩) fun obj s₁ h₁ => ?_
  exact ⟨h₁.1,F.args_object_init_2 obj _,object_init_meets F.called_tuple.init.lookup F.called_tuple.made (by decide) prog w A.in1 _ s₁ ⟨h₁.1,rfl,h₁.2⟩⟩
end
section
variable {X : Cx}
def tTupRt (K : PySem.W.Frag) (te : TE) : TE := fun σ H Q => te σ H fun v H1 => ∃ (a : Addr) (xs : List V),v = .ref a /\ SqT K H1 a xs /\ ∀ q,H1 q = none -> Q (.ref q) (upd H1 q (.tup xs.reverse))
theorem pe_tupRt {e : Expr} {te : TE} {p p2 pos pos2 : Pos} (hc : X.calm = true) (hg : Gl X "tuple") (hm : X.mg "tuple" = none) (hg2 : Gl X "reversed") (hm2 : X.mg "reversed" = none) (he : PE X e te)
    (hs : starEach [e] X.env = (false,eval e X.env) :: starEach [] X.env := by rfl)
    (hs2 : starEach [.Call (.Name "reversed" p2) [e] [] pos2] X.env = (false,eval (.Call (.Name "reversed" p2) [e] [] pos2) X.env) :: starEach [] X.env := by rfl) :
    PE X (.Call (.Name "tuple" p) [.Call (.Name "reversed" p2) [e] [] pos2] [] pos) (tTupRt X.K te) := by
  refine ⟨fun pins s σ H Q I h => ?_⟩
  refine Call_ (ld_blt I hg hm boot_tuple (PyProof.Rows.callWith_type1 (args_cons (Call_ (ld_blt I hg2 hm2 PyProof.Rows.boot_reversed (PyProof.Rows.callWith_type1 (args_cons (thn (he.run pins s σ H _ I h) fun u s1 ⟨v,H1,I1,r1,q1⟩ => args_nil ?_) hs) hs rfl))) hs2) hs2 rfl))
  obtain ⟨a,xs,ev,hq,q⟩ := q1
  subst ev
  obtain rfl : u = Value.ref a := r1
  obtain ⟨its,rv,p',hz⟩ := I1.tuple hq
  have hn63 := line63
  refine call_reversed_tup p' (fun A E Q k => len_tuple p' (by have := rv.length; simp only [List.size_toArray]; omega) k) (args_nil ?_)
  have I2 : Inv X pins σ H1 { s1 with heap := s1.heap.push (rtObj a ((its.toArray.size : Int) - 1)),toks := s1.toks + 1 + 1 } := I1.kept (t' := s1.toks + 1 + 1) fun b o e => Heap.get?_push_of_some _ e
  obtain ⟨f0,f1,f2,f3,f4,f5⟩ := I1.fpOk (H' := H1) (b := s1.heap.objs.size) (Nat.le_refl _) (I1.hok.fresh (Nat.le_refl _))
  obtain ⟨ol,hol,hlc⟩ := id p'
  have hne : a ≠ s1.heap.objs.size := Nat.ne_of_lt (Heap.lt_size hol)
  have hn : its.toArray.size <= sizeLine := by rw [List.size_toArray,<- rv.length]; exact hz
  refine bDa (s := { s1 with heap := s1.heap.push (rtObj a ((its.toArray.size : Int) - 1)),toks := s1.toks + 1 + 1 }) (by have := rv.length; simp only [List.size_toArray]; omega) (I1.ok.hd hc) ⟨_,Heap.get?_push_size _ rfl,rfl,rfl⟩ ⟨ol,Heap.get?_push_of_some _ hol,hlc⟩ hne hn fun h' tk acc hk hi => ?_
  have I3 : Inv X pins σ H1 { s1 with heap := h',toks := tk } := I2.turned (t' := tk) (fun b o hb e => hk b o hb e) f0 f1 f3 f4 f5
  refine ⟨.ref h'.objs.size,upd H1 h'.objs.size (.tup xs.reverse),I3.laid (t' := tk) (fun c o e => Heap.get?_push_of_some _ e) (Nat.le_refl _) (show ObjOk X.prog X.w _ _ _ (.tup xs.reverse) from ⟨by rw [List.length_reverse]; exact hz,acc.toList,vals_rev rv hi,?_⟩),rfl,q _ (I3.hok.fresh (Nat.le_refl _))⟩
  rw [Array.toArray_toList]
  exact IsTup.new _ _
end
end RtT
set_option autoImplicit true
namespace Sp
open PySem PySem.Spec PyProof.Rows L2
theorem tsort_eq {ns ms : List (List Int)} (h1 : ms.Perm ns) (h2 : ms.Pairwise fun a b => HT.lexLt b a = false) : ms = tsort ns := by
  have h3 := List.pairwise_mergeSort (le := fun a b : List Int => !HT.lexLt b a) (fun a b c h g => by
    rw [SoT.lex_tr a b c (by simpa using h) (by simpa using g)]
    rfl) (fun a b => by
    cases h : HT.lexLt a b with
    | true => rw [SoT.lex_asym a b h]; rfl
    | false => simp) ns
  refine List.Perm.eq_of_pairwise (le := fun a b => HT.lexLt b a = false) (fun a b _ _ h g => SoT.lex_tot a b g h) h2 (h3.imp fun h => by simpa using h) (h1.trans (List.mergeSort_perm _ _).symm)
theorem paired_get {α β : Type} {F : α -> β -> Prop} : ∀ {l₁ : List α} {l₂ : List β} {i : Nat} {a : α},Paired F l₁ l₂ -> l₁[i]? = some a -> ∃ b,l₂[i]? = some b /\ F a b
  | _,_,i,a,.nil,e => by simp at e
  | _,_,0,a,.cons h t,e => by
    simp only [List.getElem?_cons_zero,Option.some.injEq] at e
    subst e
    exact ⟨_,rfl,h⟩
  | _,_,i + 1,a,.cons h t,e => by
    obtain ⟨b,e1,e2⟩ := paired_get (i := i) t (by simpa using e)
    exact ⟨b,by simpa using e1,e2⟩
section
variable {X : Cx}
def rSortD (K : PySem.W.Frag) : List V -> Hp -> VK -> Prop := fun vs H Q => ∃ (a : Addr) (kvs : List (List Key × V)) (nss : List (List Int)),vs = [V.ref a] /\ Rd H a (.dT kvs) /\ kvs.map (fun kv => kv.1.map kV) = nss.map (fun ns => ns.map V.int) /\
  ∀ (ts : List Addr) p,ts.length = nss.length -> (∀ (i : Nat) t ns,ts[i]? = some t -> (tsort nss)[i]? = some ns -> H t = some (.tup (ns.map V.int))) -> H p = none -> Q (.ref p) (upd H p (.lst (ts.map V.ref)))
theorem bVa (hc : X.calm = true) (hu : X.A.units + 64 < cLine) : CallR X (.builtin "sorted") (rSortD X.K) := by
  intro pins s σ H vs us Q I r h
  obtain ⟨d,kvs,nss,rfl,hd,hk,q⟩ := h
  obtain ⟨u,rfl,rx⟩ := r.one
  cases rx
  obtain ⟨z,hs,ks,pr,o,es,ep,ho,hx,hdt,he,hn⟩ := (show ObjOk X.prog X.w H s.heap d (.dT kvs) from hd.ok I.hok)
  have l1 : es.size = ks.length := size_of_entries he
  have l2 : kvs.length = ks.length := Paired.length pr
  refine Calls.call_function_entry PyProof.Rows.kind_sorted PyProof.Rows.plain_sorted PyProof.Rows.entry_sorted (PyProof.Rows.args_sorted1 _) ?_
  unfold Builtin.«sorted»
  refine wpAny_bind (m := checkCount "sorted" 1 1 _) (wpAny_pure ?_)
  refine wpAny_bind (PySem.W.kdu_collect (A := X.A.in1) (kdl_raw hs hx hdt) (I.ok.hd hc) ho (by omega) fun h' tk acc kp it => ?_)
  have ea : acc.toList = (ks.map fun x => x.2.1).map Value.ref := by
    have hl : acc.toList.length = ks.length := by rw [Array.length_toList,it.1]; exact l1
    apply List.ext_getElem?
    intro j
    rw [List.map_map,List.getElem?_map]
    cases hj : acc.toList[j]? with
    | none =>
      have h1 := List.getElem?_eq_none_iff.mp hj
      rw [List.getElem?_eq_none (by omega)]
      all_goals rfl
    | some v =>
      obtain ⟨en,hen,hv⟩ := it.2 j v (by rw [<- Array.getElem?_toList]; exact hj)
      have qe := entry_at he j
      rw [hen] at qe
      cases hb : ks[j]? with
      | none =>
        rw [hb] at qe
        exact nomatch (show some en = none from qe)
      | some b =>
        rw [hb] at qe
        have e2 : en = entryOfKey (tupleKind (mixKind X.prog X.w)) b := Option.some.inj qe
        rw [hv,e2]
        all_goals rfl
  have I1 : Inv X pins σ H { s with heap := h',toks := tk } := I.kept kp
  have kt : ∀ (j : Nat) b,(ks.map fun x => x.2.1)[j]? = some b -> ∃ ns,nss[j]? = some ns /\ H b = some (.tup (ns.map V.int)) := fun j b e => by
    rw [List.getElem?_map] at e
    obtain ⟨x,ex,rfl⟩ := Option.map_eq_some_iff.mp e
    have hj : j < kvs.length := by rw [l2]; exact (List.getElem?_eq_some_iff.mp ex).1
    have pj := paired_get pr (List.getElem?_eq_getElem hj)
    obtain ⟨x',ex',p1,p2,p3⟩ := pj
    rw [ex] at ex'
    cases ex'
    have : (kvs.map fun kv => kv.1.map kV)[j]? = some (kvs[j].1.map kV) := by rw [List.getElem?_map,List.getElem?_eq_getElem hj]; rfl
    rw [hk,List.getElem?_map] at this
    obtain ⟨ns,e1,e2⟩ := Option.map_eq_some_iff.mp this
    exact ⟨ns,e1,by rw [p2,e2]⟩
  have hl3 : nss.length = ks.length := by
    have := congrArg List.length hk
    rw [List.length_map,List.length_map] at this
    omega
  let k : Value -> List Int := fun v => match v with
    | .ref b => match H b with
      | some (.tup xs) => xs.map fun x => match x with
        | .int i => i
        | _ => 0
      | _ => []
    | _ => []
  have kk : ∀ b ns,H b = some (.tup (ns.map V.int)) -> k (.ref b) = ns := fun b ns e => by
    show (match H b with
      | some (.tup xs) => xs.map fun x => match x with
        | .int i => i
        | _ => 0
      | _ => []) = ns
    rw [e]
    simp only [List.map_map]
    exact List.map_id'' (fun _ => rfl) ns
  have mem : ∀ v ∈ acc.toList,∃ b ns,v = .ref b /\ ns ∈ nss /\ H b = some (.tup (ns.map V.int)) := fun v hv => by
    rw [ea] at hv
    obtain ⟨b,hb,rfl⟩ := List.mem_map.mp hv
    obtain ⟨j,hj,e⟩ := List.getElem_of_mem hb
    obtain ⟨ns,e1,e2⟩ := kt j b (by rw [List.getElem?_eq_getElem hj,e])
    exact ⟨b,ns,rfl,List.mem_of_getElem? e1,e2⟩
  have hz2 : acc.toList.length <= sizeLine := by rw [Array.length_toList,it.1]; omega
  have hti : ∀ v ∈ acc.toList,SoT.IsTI h' v (k v) := fun v hv => by
    obtain ⟨b,ns,rfl,_,e⟩ := mem v hv
    rw [kk b ns e]
    obtain ⟨_,its,r2,o2,ho2,hc2,n2,hd2⟩ := (show ObjOk X.prog X.w H h' b (.tup (ns.map V.int)) from I1.hok b _ e)
    exact ⟨b,its.toArray,rfl,⟨o2,ho2,hc2,n2,hd2⟩,by
      show IntsAre its.toArray.toList ns
      simpa using intsAre_of r2⟩
  refine wpAny_bind (wpAny_newList ?_ (by rw [Array.length_toList,it.1]; omega))
  have hoL : (h'.push (seqObj "list" acc.toList.toArray 0)).get? h'.objs.size = some (seqObj "list" acc.toList.toArray 0) := Heap.get?_push_size _ rfl
  show wpAny _ _ _ _ _ { s with heap := h'.push (seqObj "list" acc.toList.toArray 0),toks := tk }
  refine wpAny_bind (wpAny_holding (wpAny_call_entry PyProof.Rows.slot_list_sort ⟨_,hoL,rfl⟩ PyProof.Rows.entry_list_sort
    (SrtO.list_sort_ord (s := { s with heap := h'.push (seqObj "list" acc.toList.toArray 0),toks := tk }) (SoT.lex_swo k) hoL hz2 (fun h2 => SoT.ti_sortable (k := k) h2 (by show X.A.units + 1 + 1 < cLine; omega) (fun v hm => (hti v hm).keeps fun b o _ e => Heap.get?_push_of_some _ e) fun o e => ?_) fun out h1 h2 => ⟨_,rfl,?_⟩) (PyProof.Rows.args_list_sort _)))
  · have e' : some o = some (seqObj "list" acc.toList.toArray 0) := e.symm.trans hoL
    cases e'
    intro c
    exact absurd (Value.type.inj c) (by decide)
  · have memo : ∀ v ∈ out,∃ b ns,v = .ref b /\ ns ∈ nss /\ H b = some (.tup (ns.map V.int)) := fun v hv => mem v (h2.perm.mem_iff.mp hv)
    have hol : out.length = nss.length := by rw [h2.perm.length_eq,Array.length_toList,it.1]; omega
    obtain ⟨e',he'⟩ := PyProof.Rows.sortedHeap_at (vs := acc.toList) (out := out.toArray) hoL
    let ts : List Addr := out.map fun v => match v with
      | .ref b => b
      | _ => 0
    have hts : out = ts.map Value.ref := by
      show out = (out.map _).map Value.ref
      rw [List.map_map]
      refine (List.map_id'' (fun _ => rfl) out).symm.trans (List.map_congr_left fun v hv => ?_)
      obtain ⟨b,ns,rfl,_⟩ := memo v hv
      rfl
    have hacc : acc.toList.map k = nss := by
      refine List.ext_getElem? fun j => ?_
      rw [ea,List.map_map,List.getElem?_map]
      cases hb : (ks.map fun x => x.2.1)[j]? with
      | none =>
        have h1 := List.getElem?_eq_none_iff.mp hb
        rw [List.length_map] at h1
        rw [List.getElem?_eq_none (by omega)]
        rfl
      | some b =>
        obtain ⟨ns,e1,e2⟩ := kt j b hb
        rw [e1]
        exact congrArg some (kk b ns e2)
    have hsort : out.map k = tsort nss := tsort_eq (by rw [<- hacc]; exact h2.perm.map k) (List.pairwise_map.mpr h1)
    have hlen : (ts.map V.ref).length <= sizeLine := by
      rw [List.length_map,List.length_map]
      omega
    refine wpAny_pure ⟨_,rfl,.ref h'.objs.size,upd H h'.objs.size (.lst (ts.map V.ref)),I1.laid (t' := tk) (fun b u e => ?_) (Nat.le_refl _)
      (show ObjOk X.prog X.w _ _ _ (.lst (ts.map V.ref)) from ⟨hlen,out,e',by rw [hts]; exact vals_refs ts,he'⟩),rfl,q ts _ (by rw [List.length_map]; exact hol) (fun i t ns et en => ?_) (I1.hok.fresh (Nat.le_refl _))⟩
    · have hb : b < h'.objs.size := Heap.lt_size e
      rw [PyProof.Rows.sortedHeap_old (Nat.ne_of_lt hb) (by rw [size_push']; exact Nat.lt_succ_of_lt hb)]
      exact Heap.get?_push_of_some _ e
    · have eo : out[i]? = some (.ref t) := by rw [hts,List.getElem?_map,et]; rfl
      obtain ⟨b,ns',eb,_,e2⟩ := memo _ (List.mem_of_getElem? eo)
      cases eb
      have : (out.map k)[i]? = some ns' := by rw [List.getElem?_map,eo]; exact congrArg some (kk t ns' e2)
      rw [hsort,en] at this
      cases this
      exact e2
def PairsAt (K : PySem.W.Frag) (H : Hp) (ps : List Addr) (kvs : List (List Key × V)) : Prop := Paired (fun p kv => ∃ b,SqT K H p [.ref b,kv.2] /\ H b = some (.tup (kv.1.map kV))) ps kvs
theorem nK {pins : List (Addr × Obj)} {s : Shared} {σ : L2.St} {H : Hp} (I : Inv X pins σ H s) : ∀ {ps : List Addr} {kvs : List (List Key × V)},PairsAt X.K H ps kvs ->
    ∃ xs : List (List Key × Addr × Value),KT H kvs xs /\ xs.length = ps.length /\ ∀ (j : Nat) x,xs[j]? = some x -> ∃ p,ps[j]? = some p /\ PairAt s.heap p (.ref x.2.1) x.2.2
  | _,_,.nil => ⟨[],.nil,rfl,fun j x e => by simp at e⟩
  | _,_,.cons h t => by
    obtain ⟨b,h1,h2⟩ := h
    obtain ⟨xs,r,hl,hx⟩ := nK I t
    obtain ⟨its,rv,pl,hz⟩ := I.tuple h1
    obtain ⟨u1,u2,rfl,r1,r2⟩ := vals2 rv
    cases r1
    refine ⟨(_,b,u2) :: xs,.cons ⟨rfl,h2,r2⟩ r,by rw [List.length_cons,List.length_cons,hl],fun j x e => ?_⟩
    cases j with
    | zero =>
      simp only [List.getElem?_cons_zero,Option.some.injEq] at e
      subst e
      exact ⟨_,rfl,.inl pl⟩
    | succ j =>
      obtain ⟨p,e1,e2⟩ := hx j x (by simpa using e)
      exact ⟨p,by simpa using e1,e2⟩
theorem KT.all {H : Hp} : ∀ {ps : List (List Key × V)} {xs : List (List Key × Addr × Value)} {kvs : List (List Key × V)} {ys : List (List Key × Addr × Value)},KT H kvs ys -> KT H ps xs -> KT H (vAll kvs ps) (storedAllH ys xs)
  | _,_,_,_,r,.nil => r
  | _,_,_,_,r,.cons h t => by
    unfold vAll storedAllH
    rw [List.foldl_cons,List.foldl_cons]
    obtain ⟨h1,h2,h3⟩ := h
    rw [<- h1] at *
    exact KT.all (L2.KT.put r _ h2 h3) t
theorem mT : ∀ (ps kvs : List (List Key × V)),(vAll kvs ps).length <= kvs.length + ps.length
  | [],kvs => by show kvs.length <= _; simp
  | p :: ps,kvs => by
    have h1 := mT ps (putK kvs p.1 p.2)
    have h2 := length_putK kvs p.1 p.2
    show (vAll (putK kvs p.1 p.2) ps).length <= _
    rw [List.length_cons]
    omega
def rDictT (K : PySem.W.Frag) : List V -> Hp -> VK -> Prop := fun vs H Q => ∃ (a : Addr) (ps : List Addr) (kvs : List (List Key × V)),vs = [V.ref a] /\ (LsX K H a (ps.map V.ref) \/ ∃ o,H a = some (.frz o (.tup (ps.map V.ref))) /\ o.dict = none) /\ PairsAt K H ps kvs /\ ∀ p,H p = none -> Q (.ref p) (upd H p (.dT (vAll [] kvs)))
theorem kU (hc : X.calm = true) (hu : X.A.units + 64 < cLine) : CallR X (.type "dict") (rDictT X.K) := by
  intro pins s σ H vs us Q I r h
  obtain ⟨a,ps,kvs,rfl,ha,hp,q⟩ := h
  obtain ⟨u,rfl,rx⟩ := r.one
  cases rx
  obtain ⟨its,T,rv,hl,hz,e,PA⟩ : ∃ (its : List Value) (T : String),Vals (ps.map V.ref) its /\ (ps.map V.ref).length = its.length /\ (ps.map V.ref).length <= sizeLine /\ PlainSeq T s.heap a its.toArray /\
      ∀ (Ts : Nat -> Addr) (pq : List (Value × Value)),PairArg X.prog X.w T a (a :: (List.range pq.length).map Ts) [] pq.length (PairRel pq) (fun h => PlainSeq T h a its.toArray /\ PairItems h its.toArray Ts pq) := by
    rcases ha with ha | ⟨o,ha,hd⟩
    · obtain ⟨its,n,rv,hl,hz,e⟩ := lsx I ha
      exact ⟨its,"list",rv,hl,hz,⟨_,n,e,rfl,rfl,rfl⟩,fun Ts pq => PairArg.list a its.toArray Ts pq⟩
    · obtain ⟨e,z,its,rv,o',e',c1,n,c2⟩ := (show ObjOk X.prog X.w H s.heap a (.frz o (.tup (ps.map V.ref))) from I.hok _ _ ha)
      rw [e] at e'
      cases e'
      exact ⟨its,"tuple",rv,rv.length,z,⟨o,n,e,c1,hd,c2⟩,fun Ts pq => PairArg.tuple a its.toArray Ts pq⟩
  rw [List.length_map] at hl hz
  obtain ⟨xs,rel,hxl,hpr⟩ := nK I hp
  have ei : its = ps.map Value.ref := by
    refine List.ext_getElem? fun j => ?_
    rw [List.getElem?_map]
    cases hj : ps[j]? with
    | none =>
      have := List.getElem?_eq_none_iff.mp hj
      rw [List.getElem?_eq_none (by omega)]
      rfl
    | some b =>
      obtain ⟨u,e1,e2⟩ := rv.get (show (ps.map V.ref)[j]? = some (.ref b) by rw [List.getElem?_map,hj]; rfl)
      cases e2
      rw [e1]
      rfl
  refine call_dict_pairsH (knd := tupleKind (mixKind X.prog X.w)) (ps := xs) (PA (fun j => ps[j]?.getD 0) (xs.map fun x => (Value.ref x.2.1,x.2.2))) (I.ok.hd hc) (tupleKind_room_in1 (A := X.A.in1) (by show X.A.units + 1 + 1 < cLine; omega)) ⟨e,by rw [List.length_map,List.size_toArray,hxl,hl],fun j k v ej => ?_⟩ ⟨by rw [List.length_map],fun i key v ei => ?_⟩ (fun h' hk x hx => ?_) (by rw [List.length_map,hxl]; exact hz) fun h' tk hd' hk => ?_
  · rw [List.getElem?_map] at ej
    obtain ⟨x,e1,e2⟩ := Option.map_eq_some_iff.mp ej
    cases e2
    obtain ⟨b,e3,e4⟩ := hpr j x e1
    have e5 : ps[j]?.getD 0 = b := by rw [e3]; rfl
    show its.toArray[j]? = some (Value.ref (ps[j]?.getD 0)) /\ PairAt s.heap (ps[j]?.getD 0) _ _
    rw [e5]
    refine ⟨?_,e4⟩
    rw [ei]
    simp [e3]
  · have ei : (xs.map fun x => (Value.ref x.2.1,x.2.2))[i]? = some (key,v) := ei
    rw [List.getElem?_map] at ei
    obtain ⟨x,e1,e2⟩ := Option.map_eq_some_iff.mp ei
    cases e2
    exact ⟨x.1,x.2.1,e1,rfl⟩
  · have hkey : ∃ kv ∈ kvs,x.1 = kv.1 /\ H x.2.1 = some (.tup (kv.1.map kV)) := by
      clear e ei hpr hxl hp q
      induction rel with
      | nil => cases hx
      | cons h t ih =>
        rcases List.mem_cons.mp hx with q | q
        · subst q
          exact ⟨_,List.mem_cons_self ..,h.1.symm,h.2.1⟩
        · obtain ⟨kv,h1,h2⟩ := ih q
          exact ⟨kv,List.mem_cons_of_mem _ h1,h2⟩
    obtain ⟨kv,_,h1,h2⟩ := hkey
    obtain ⟨_,its2,r2,o2,ho2,hc2,n2,hd2⟩ := (show ObjOk X.prog X.w H s.heap x.2.1 (.tup (kv.1.map kV)) from I.hok _ _ h2)
    rw [h1]
    exact ⟨o2,its2.toArray,n2,hk _ _ (Nat.ne_of_lt (Heap.lt_size ho2)) (by simp) ho2,hc2,hd2,by simpa using items_are r2⟩
  · have hm : (s.heap.objs.size == sysModules) = false := beq_eq_false_iff_ne.mpr (Nat.ne_of_gt I.big)
    have hlen : (vAll [] kvs).length <= sizeLine := by
      have := mT kvs []
      have h2 := Paired.length hp
      rw [List.length_nil] at this
      omega
    obtain ⟨o',es',ep',g1,g2,g3,g4,g5,g6⟩ := hd'
    have st : ∀ b u,s.heap.get? b = some u -> h'.get? b = some u := fun b u eb => hk b u (by simp) eb
    refine ⟨.ref s.heap.objs.size,upd H s.heap.objs.size (.dT (vAll [] kvs)),I.laid (t' := tk) st (Nat.le_refl _)
      (show ObjOk X.prog X.w _ _ _ (.dT (vAll [] kvs)) from ⟨hlen,hm,storedAllH [] xs,(KT.all .nil rel).keeps fun b ys eb => ?_,o',es',ep',g1,g2,g3,g4,g6⟩),rfl,q _ (I.hok.fresh (Nat.le_refl _))⟩
    rw [upd_ne (fun z => by subst z; rw [I.hok.fresh (Nat.le_refl _)] at eb; cases eb)]
    exact eb
end
end Sp
set_option autoImplicit true
namespace Sp
open PySem PySem.Spec PyProof.Rows L2
section
variable {prog : Program} {w : World} {A : Around} {E : Value -> Shared -> Prop} {s : Shared} {l : Addr}
theorem oP {items : Array Value} {Q : Value -> Shared -> Prop} (hl : s.heap.IsTuple l items)
    (h : ∀ s2 : Shared,s2 = { s with heap := s.heap.push { cls := .type "tuple_iterator",data := .fields #[.ref l,.int 0 0] } } ->
      (s2.heap.IsTupleIter s.heap.objs.size l 0 /\ s2.heap.IsTuple l items) -> (∀ b ∈ [s.heap.objs.size,l],b < s2.heap.objs.size) -> l ≠ s.heap.objs.size -> Q (.ref s.heap.objs.size) s2) :
    wpAny (model prog w) A (pyIter (.ref l)) Q E s := by
  have hlt : l < s.heap.objs.size := by obtain ⟨_,e,_⟩ := hl; exact Heap.lt_size e
  obtain ⟨o,ho,hr⟩ := hl
  refine wpAny_pyIter_tuple ⟨o,ho,hr⟩ (h _ rfl ⟨⟨_,Heap.get?_push_size _ rfl,rfl,rfl⟩,⟨o,Heap.get?_push_of_some _ ho,hr⟩⟩ (fun b hb => ?_) (Nat.ne_of_lt hlt))
  show b < (s.heap.push _).objs.size
  rw [Heap.size_push]
  rcases List.mem_cons.mp hb with rfl | hb
  · exact Nat.lt_succ_self _
  · rcases List.mem_cons.mp hb with rfl | hb
    · exact Nat.lt_succ_of_lt hlt
    · cases hb
theorem oO {h' : Heap} (hk : ∀ b o,b ∉ [s.heap.objs.size] -> (s.heap.push { cls := .type "tuple_iterator",data := .fields #[.ref l,.int 0 0] }).get? b = some o -> h'.get? b = some o) :
    ∀ b o,s.heap.get? b = some o -> h'.get? b = some o := fun b o e => by
  refine hk b o (fun hm => ?_) (Heap.get?_push_of_some _ e)
  rcases List.mem_cons.mp hm with e1 | hm
  · exact absurd (e1 ▸ Heap.lt_size e) (Nat.lt_irrefl _)
  · cases hm
variable {its : List Value} {ns : List Int} {Q : Value -> Shared -> Prop}
theorem fRa (hh : A.handled = none) (hl : s.heap.IsTuple l its.toArray) (hi : IntsAre its ns) (hne : 0 < ns.length)
    (h : ∀ h' tk M t',(∀ b o,s.heap.get? b = some o -> h'.get? b = some o) -> M ∈ ns -> (∀ a,a ∈ ns -> a <= M) -> Q (.int M t') { s with heap := h',toks := tk }) : wpAny (model prog w) A (call (.builtin "max") [.ref l]) Q E s := by
  obtain ⟨xs,e⟩ := hi.allInts.items
  have hn : numsOf (intItems xs).toList = ns := by rw [<- e]; exact hi.numsOf
  rw [nums_intItems] at hn
  subst hn
  rw [e] at hl
  have hsz : 0 < xs.size := by simpa using hne
  refine call_max_walk (oP hl fun s₂ e2 st hfp hlI => ?_)
  subst e2
  refine ⟨_,_,_,_,_,_,_,rfl,Walks.tuple (A := A.in1) hh _ l hlI (intItems xs),st,hfp,by simpa [intItems] using hsz,CmpOf.ints_gt (numAt xs) (fun _ _ => intItems_at),fun v h' tk hP hk => ?_⟩
  have hP : (intItems xs)[argBest (fun i j => decide (numAt xs i > numAt xs j)) (xs.size - 1)]? = some v := by simpa [intItems] using hP
  obtain ⟨t,rfl⟩ := intItems_at hP
  obtain ⟨h1,h2⟩ := argBest_gt (numAt xs) (xs.size - 1)
  refine h h' tk _ t (oO hk) ?_ fun a ha => ?_
  · rw [numAt_eq]; exact PySem.getD_mem (by rw [List.length_map,Array.length_toList]; omega)
  · obtain ⟨j,hj,rfl⟩ := mem_getD ha
    rw [List.length_map,Array.length_toList] at hj
    rw [<- numAt_eq]; exact h2 j (by omega)
theorem lYa (hh : A.handled = none) (hl : s.heap.IsTuple l its.toArray) (hi : IntsAre its ns)
    (h : ∀ h' tk t',(∀ b o,s.heap.get? b = some o -> h'.get? b = some o) -> Q (.int ns.sum t') { s with heap := h',toks := tk }) : wpAny (model prog w) A (call (.builtin "sum") [.ref l]) Q E s := by
  obtain ⟨xs,e⟩ := hi.allInts.items
  have hn : numsOf (intItems xs).toList = ns := by rw [<- e]; exact hi.numsOf
  rw [nums_intItems] at hn
  rw [e] at hl
  refine PySem.W.ktm_sumG hh hl fun h' tk t' hk => ?_
  have := h h' tk t' hk
  rw [preSum_eq,List.take_of_length_le (by simp),hn]
  exact this
theorem fXa (hh : A.handled = none) (hl : s.heap.IsTuple l its.toArray) (hi : IntsAre its ns) (hne : 0 < ns.length)
    (h : ∀ h' tk M t',(∀ b o,s.heap.get? b = some o -> h'.get? b = some o) -> M ∈ ns -> (∀ a,a ∈ ns -> M <= a) -> Q (.int M t') { s with heap := h',toks := tk }) : wpAny (model prog w) A (call (.builtin "min") [.ref l]) Q E s := by
  obtain ⟨xs,e⟩ := hi.allInts.items
  have hn : numsOf (intItems xs).toList = ns := by rw [<- e]; exact hi.numsOf
  rw [nums_intItems] at hn
  subst hn
  rw [e] at hl
  have hsz : 0 < xs.size := by simpa using hne
  refine call_min_walk (oP hl fun s₂ e2 st hfp hlI => ?_)
  subst e2
  refine ⟨_,_,_,_,_,_,_,rfl,Walks.tuple (A := A.in1) hh _ l hlI (intItems xs),st,hfp,by simpa [intItems] using hsz,CmpOf.ints_lt (numAt xs) (fun _ _ => intItems_at),fun v h' tk hP hk => ?_⟩
  have hP : (intItems xs)[argBest (fun i j => decide (numAt xs i < numAt xs j)) (xs.size - 1)]? = some v := by simpa [intItems] using hP
  obtain ⟨t,rfl⟩ := intItems_at hP
  obtain ⟨h1,h2⟩ := argBest_lt (numAt xs) (xs.size - 1)
  refine h h' tk _ t (oO hk) ?_ fun a ha => ?_
  · rw [numAt_eq]; exact PySem.getD_mem (by rw [List.length_map,Array.length_toList]; omega)
  · obtain ⟨j,hj,rfl⟩ := mem_getD ha
    rw [List.length_map,Array.length_toList] at hj
    rw [<- numAt_eq]; exact h2 j (by omega)
end
section
variable {X : Cx}
def rMaxT (K : PySem.W.Frag) : List V -> Hp -> VK -> Prop := fun vs H Q => ∃ (a : Addr) (ns : List Int),vs = [V.ref a] /\ SqT K H a (ns.map V.int) /\ 0 < ns.length /\ ∀ m,m ∈ ns -> (∀ y,y ∈ ns -> y <= m) -> Q (.int m) H
def rMinT (K : PySem.W.Frag) : List V -> Hp -> VK -> Prop := fun vs H Q => ∃ (a : Addr) (ns : List Int),vs = [V.ref a] /\ SqT K H a (ns.map V.int) /\ 0 < ns.length /\ ∀ m,m ∈ ns -> (∀ y,y ∈ ns -> m <= y) -> Q (.int m) H
def rSumT (K : PySem.W.Frag) : List V -> Hp -> VK -> Prop := fun vs H Q => ∃ (a : Addr) (ns : List Int),vs = [V.ref a] /\ SqT K H a (ns.map V.int) /\ Q (.int ns.sum) H
theorem bZa (hc : X.calm = true) : CallR X (.builtin "sum") (rSumT X.K) := by
  intro pins s σ H vs us Q I r h
  obtain ⟨a,ns,rfl,hs,q⟩ := h
  obtain ⟨its,rv,hl,_⟩ := I.tuple hs
  rw [Vals.ref1 r]
  exact lYa (I.ok.hd hc) hl rv.ints fun h' tk t' hk => ⟨.int _,H,I.kept hk,⟨_,rfl⟩,q⟩
theorem bRa (hc : X.calm = true) : CallR X (.builtin "max") (rMaxT X.K) := by
  intro pins s σ H vs us Q I r h
  obtain ⟨a,ns,rfl,hs,hne,q⟩ := h
  obtain ⟨its,rv,hl,_⟩ := I.tuple hs
  rw [Vals.ref1 r]
  exact fRa (I.ok.hd hc) hl rv.ints hne fun h' tk m t' hk h1 h2 => ⟨.int _,H,I.kept hk,⟨_,rfl⟩,q m h1 h2⟩
theorem bSa (hc : X.calm = true) : CallR X (.builtin "min") (rMinT X.K) := by
  intro pins s σ H vs us Q I r h
  obtain ⟨a,ns,rfl,hs,hne,q⟩ := h
  obtain ⟨its,rv,hl,_⟩ := I.tuple hs
  rw [Vals.ref1 r]
  exact fXa (I.ok.hd hc) hl rv.ints hne fun h' tk m t' hk h1 h2 => ⟨.int _,H,I.kept hk,⟨_,rfl⟩,q m h1 h2⟩
end
theorem jP : ∀ ts : List Str,(ts.map (·.length)).sum + 2 * ts.length = piled ts
  | [] => rfl
  | t :: r => by
    rw [piled_cons,<- jP r,List.map_cons,List.sum_cons,List.length_cons]
    omega
theorem fMa (ts : List Str) : (listText ts).length <= piled ts + 3 := by
  have := listText_len_le ts
  rw [<- jP]
  omega
theorem kB (ts : List Str) : (tupleText ts).length <= piled ts + 3 := by
  have := tupleText_len_le ts
  rw [<- jP]
  omega
mutual
theorem jV : ∀ {d : D} {q : PyData},d.py = some q -> d.rm <= 16777216 -> q.showable = true /\ q.shown.length <= d.rm
  | .non,_,e,_ => by
    cases e
    exact ⟨by simp only [PyData.showable],by simp only [PyData.shown,D.rm]; decide⟩
  | .bl b,_,e,_ => by
    cases e
    exact ⟨by simp only [PyData.showable],by simp only [PyData.shown,D.rm]; cases b <;> decide⟩
  | .int i,_,e,z => by
    cases e
    unfold D.rm at z ⊢
    by_cases h : i.natAbs.log2 < 1920
    · rw [if_pos h]
      refine ⟨by simp only [PyData.showable,decide_eq_true h],?_⟩
      have := int_text_length_le (k := 1920) (by decide) h
      simp only [PyData.shown]
      show (Str.ofString (toString i)).length <= 2000
      rw [PySem.ofString_length]
      omega
    · rw [if_neg h] at z
      omega
  | .str x,_,e,z => by
    cases e
    exact ⟨by simp only [PyData.showable],by simp only [PyData.shown,D.rm]; exact Nat.le_refl _⟩
  | .tup xs,_,e,z => by
    obtain ⟨qs,e1,rfl⟩ := Option.map_eq_some_iff.mp (show (D.pys xs).map _ = _ from e)
    unfold D.rm at z ⊢
    obtain ⟨h1,h2⟩ := eD e1 (by omega)
    refine ⟨by simp only [PyData.showable,h1],?_⟩
    have := kB (PyData.shownAll qs)
    simp only [PyData.shown]
    omega
  | .ptup xs,_,e,z => by
    obtain ⟨qs,e1,rfl⟩ := Option.map_eq_some_iff.mp (show (D.pys xs).map _ = _ from e)
    unfold D.rm at z ⊢
    obtain ⟨h1,h2⟩ := eD e1 (by omega)
    refine ⟨by simp only [PyData.showable,h1],?_⟩
    have := kB (PyData.shownAll qs)
    simp only [PyData.shown]
    omega
  | .vtup xs,_,e,z => by
    obtain ⟨qs,e1,rfl⟩ := Option.map_eq_some_iff.mp (show (D.pys xs).map _ = _ from e)
    unfold D.rm at z ⊢
    obtain ⟨h1,h2⟩ := eD e1 (by omega)
    refine ⟨by simp only [PyData.showable,h1],?_⟩
    have := kB (PyData.shownAll qs)
    simp only [PyData.shown]
    omega
  | .lst xs,_,e,z => by
    obtain ⟨qs,e1,rfl⟩ := Option.map_eq_some_iff.mp (show (D.pys xs).map _ = _ from e)
    unfold D.rm at z ⊢
    obtain ⟨h1,h2⟩ := eD e1 (by omega)
    refine ⟨by simp only [PyData.showable,h1],?_⟩
    have := fMa (PyData.shownAll qs)
    simp only [PyData.shown]
    omega
  | .dct _,_,e,_ => by cases e
  | .dctT _,_,e,_ => by cases e
  | .ref _,_,e,_ => by cases e
theorem eD : ∀ {d : List D} {q : List PyData},D.pys d = some q -> D.rms d <= 16777216 -> PyData.showableAll q = true /\ piled (PyData.shownAll q) <= D.rms d
  | [],_,e,_ => by
    cases e
    exact ⟨by simp only [PyData.showableAll],by simp only [PyData.shownAll,piled_nil,D.rms]; exact Nat.le_refl _⟩
  | d :: ds,_,e,z => by
    unfold D.pys at e
    unfold D.rms at z ⊢
    split at e
    · rename_i a b h1 h2
      cases e
      obtain ⟨x1,x2⟩ := jV h1 (by omega)
      obtain ⟨y1,y2⟩ := eD h2 (by omega)
      refine ⟨by simp only [PyData.showableAll,x1,y1,Bool.and_self],?_⟩
      simp only [PyData.shownAll,piled_cons]
      omega
    · cases e
end
theorem mC : (∀ d : PyData,d.plain = true -> d.hasDict = false) /\ (∀ ds : List PyData,PyData.plainAll ds = true -> PyData.hasDictAll ds = false) := by
  have key : ∀ n,(∀ d : PyData,sizeOf d <= n -> d.plain = true -> d.hasDict = false) /\ (∀ ds : List PyData,sizeOf ds <= n -> PyData.plainAll ds = true -> PyData.hasDictAll ds = false) := by
    intro n
    induction n with
    | zero =>
      refine ⟨fun d h => ?_,fun d h => ?_⟩
      · cases d <;> simp at h
      · cases d <;> simp at h
    | succ n ih =>
      refine ⟨fun d h p => ?_,fun ds h p => ?_⟩
      · cases d with
        | none => simp only [PyData.hasDict]
        | bool b => simp only [PyData.hasDict]
        | int i => simp only [PyData.hasDict]
        | str x => simp only [PyData.hasDict]
        | list xs =>
          simp only [PyData.plain] at p
          simp only [PyData.list.sizeOf_spec] at h
          simp only [PyData.hasDict,ih.2 xs (by omega) p]
        | tuple xs =>
          simp only [PyData.plain] at p
          simp only [PyData.tuple.sizeOf_spec] at h
          simp only [PyData.hasDict,ih.2 xs (by omega) p]
        | dict xs => simp only [PyData.plain] at p; cases p
      · cases ds with
        | nil => simp only [PyData.hasDictAll]
        | cons x xs =>
          simp only [PyData.plainAll,Bool.and_eq_true] at p
          simp only [List.cons.sizeOf_spec] at h
          simp only [PyData.hasDictAll,ih.1 x (by omega) p.1,ih.2 xs (by omega) p.2,Bool.or_self]
  exact ⟨fun d => (key _).1 d (Nat.le_refl _),fun ds => (key _).2 ds (Nat.le_refl _)⟩
def Bi.val : Bi -> Value
  | .len => .builtin "len" | .abs => .builtin "abs" | .sum => .builtin "sum" | .max => .builtin "max" | .min => .builtin "min" | .max2 => .builtin "max" | .min2 => .builtin "min"
  | .all => .builtin "all" | .any => .builtin "any" | .int => .type "int" | .str => .type "str" | .bool => .type "bool" | .repr => .builtin "repr" | .tuple => .type "tuple" | .list => .type "list" | .sorted => .builtin "sorted" | .dictK => .type "dict" | .dictT => .type "dict"
inductive Seens (K : PySem.W.Frag) (p : Pm) (H : Hp) : List V -> List D -> Prop
  | nil : Seens K p H [] []
  | cons {v : V} {vs : List V} {d : D} {ds : List D} : Seen K p H v d -> Seens K p H vs ds -> Seens K p H (v :: vs) (d :: ds)
def rBi (K : PySem.W.Frag) (f : Bi) : List V -> Hp -> VK -> Prop := fun xs H Q => ∃ p ds,NT p H /\ Seens K p H xs ds /\ biK f ds fun z => ∀ v H',Res K p H z v H' -> Q v H'
theorem Seens.one {K : PySem.W.Frag} {p : Pm} {H : Hp} {vs : List V} {d : D} (h : Seens K p H vs [d]) : ∃ v,vs = [v] /\ Seen K p H v d := by
  cases h with
  | cons h r =>
    cases r
    exact ⟨_,rfl,h⟩
theorem Seens.two {K : PySem.W.Frag} {p : Pm} {H : Hp} {vs : List V} {d e : D} (h : Seens K p H vs [d,e]) : ∃ v w,vs = [v,w] /\ Seen K p H v d /\ Seen K p H w e := by
  cases h with
  | cons h r =>
    obtain ⟨w,rfl,h2⟩ := r.one
    exact ⟨_,_,rfl,h,h2⟩
theorem Reps.ints {K : PySem.W.Frag} {p : Pm} {H : Hp} : ∀ {vs : List V} {ds : List D} {ns : List Int},Reps K p H vs ds -> D.ints ds = some ns -> vs = ns.map V.int
  | _,_,_,.nil,e => by
    cases e
    rfl
  | _,.int i :: r,_,.cons h t,e => by
    obtain ⟨qs,e1,rfl⟩ := Option.map_eq_some_iff.mp (show (D.ints r).map _ = _ from e)
    cases h
    rw [List.map_cons,Reps.ints t e1]
  | _,.non :: _,_,.cons _ _,e | _,.bl _ :: _,_,.cons _ _,e | _,.str _ :: _,_,.cons _ _,e | _,.tup _ :: _,_,.cons _ _,e | _,.lst _ :: _,_,.cons _ _,e | _,.dct _ :: _,_,.cons _ _,e | _,.dctT _ :: _,_,.cons _ _,e | _,.ref _ :: _,_,.cons _ _,e => by cases e
theorem Reps.strsV {K : PySem.W.Frag} {p : Pm} {H : Hp} : ∀ {vs : List V} {ds : List D} {ns : List Str},Reps K p H vs ds -> D.strs ds = some ns -> vs = ns.map V.str
  | _,_,_,.nil,e => by
    cases e
    rfl
  | _,.str i :: r,_,.cons h t,e => by
    obtain ⟨qs,e1,rfl⟩ := Option.map_eq_some_iff.mp (show (D.strs r).map _ = _ from e)
    cases h
    rw [List.map_cons,Reps.strsV t e1]
  | _,.non :: _,_,.cons _ _,e | _,.bl _ :: _,_,.cons _ _,e | _,.int _ :: _,_,.cons _ _,e | _,.tup _ :: _,_,.cons _ _,e | _,.lst _ :: _,_,.cons _ _,e | _,.dct _ :: _,_,.cons _ _,e | _,.dctT _ :: _,_,.cons _ _,e | _,.ref _ :: _,_,.cons _ _,e => by cases e
theorem Reps.bools {K : PySem.W.Frag} {p : Pm} {H : Hp} : ∀ {vs : List V} {ds : List D} {ns : List Bool},Reps K p H vs ds -> D.bools ds = some ns -> vs = ns.map V.bl
  | _,_,_,.nil,e => by
    cases e
    rfl
  | _,.bl i :: r,_,.cons h t,e => by
    obtain ⟨qs,e1,rfl⟩ := Option.map_eq_some_iff.mp (show (D.bools r).map _ = _ from e)
    cases h
    rw [List.map_cons,Reps.bools t e1]
  | _,.non :: _,_,.cons _ _,e | _,.int _ :: _,_,.cons _ _,e | _,.str _ :: _,_,.cons _ _,e | _,.tup _ :: _,_,.cons _ _,e | _,.lst _ :: _,_,.cons _ _,e | _,.dct _ :: _,_,.cons _ _,e | _,.dctT _ :: _,_,.cons _ _,e | _,.ref _ :: _,_,.cons _ _,e => by cases e
theorem mH {ns ms : List Int} (h1 : ms.Perm ns) (h2 : ms.Pairwise (· <= ·)) : ms = isort ns := by
  have h3 := List.pairwise_mergeSort (le := fun a b : Int => decide (a <= b)) (fun a b c h g => by
    have := of_decide_eq_true h
    have := of_decide_eq_true g
    exact decide_eq_true (by omega)) (fun a b => by
    rw [Bool.or_eq_true,decide_eq_true_eq,decide_eq_true_eq]
    omega) ns
  refine List.Perm.eq_of_pairwise (le := (· <= ·)) (fun a b _ _ h g => by omega) h2 (h3.imp fun h => of_decide_eq_true h) (h1.trans (List.mergeSort_perm _ _).symm)
theorem Reps.tints {K : PySem.W.Frag} {p : Pm} {H : Hp} : ∀ {vs : List V} {ds : List D} {nss : List (List Int)},Reps K p H vs ds -> D.tintss ds = some nss ->
    ds = nss.map (fun ns => D.tup (ns.map .int)) /\ vs.length = nss.length /\ ∀ (i : Nat) v ns,vs[i]? = some v -> nss[i]? = some ns -> (∃ t,v = .ref t /\ SqT K H t (ns.map V.int)) /\ Rep K p H v (.tup (ns.map .int))
  | _,_,_,.nil,e => by
    cases e
    exact ⟨rfl,rfl,fun i v ns h => by simp at h⟩
  | v :: vs,d :: ds,_,.cons h r,e => by
    unfold D.tintss at e
    split at e
    · rename_i a b h1 h2
      cases e
      obtain ⟨e1,e2,e3⟩ := Reps.tints r h2
      cases d with
      | tup xs =>
        have h1 : D.ints xs = some a := h1
        have hx : xs = a.map D.int := by
          clear h
          induction xs generalizing a with
          | nil => cases h1; rfl
          | cons y ys ih =>
            cases y with
            | int i =>
              obtain ⟨qs,q1,rfl⟩ := Option.map_eq_some_iff.mp (show (D.ints ys).map _ = _ from h1)
              rw [List.map_cons,<- ih _ q1 q1]
            | _ => cases h1
        subst hx
        refine ⟨by rw [List.map_cons,<- e1],by rw [List.length_cons,List.length_cons,e2],fun i u ns hu hn => ?_⟩
        cases i with
        | zero =>
          have hu : v = u := by simpa using hu
          have hn : a = ns := by simpa using hn
          subst hu hn
          obtain ⟨t,ws,rfl,hs,hr⟩ := h.tupS
          rw [Reps.ints hr h1] at hs
          exact ⟨⟨t,rfl,hs⟩,h⟩
        | succ i => exact e3 i u ns (by simpa using hu) (by simpa using hn)
      | _ => cases h1
    · cases e
theorem Reps.prs {K : PySem.W.Frag} {p : Pm} {H : Hp} : ∀ {vs : List V} {ds : List D} {ps : List (List Int × Int)},Reps K p H vs ds -> D.prs ds = some ps ->
    vs.length = ps.length /\ ∀ (i : Nat) v q,vs[i]? = some v -> ps[i]? = some q -> (∃ t u,v = .ref t /\ SqT K H t [V.ref u,V.int q.2] /\ SqT K H u (q.1.map V.int)) /\ Rep K p H v (prD q)
  | _,_,_,.nil,e => by
    cases e
    exact ⟨rfl,fun i v q h => by simp at h⟩
  | v :: vs,d :: ds,_,.cons h r,e => by
    unfold D.prs at e
    split at e
    · rename_i e0
      cases e0
    · rename_i xs k r' e0
      cases e0
      split at e
      · rename_i a b h1 h2
        cases e
        obtain ⟨e2,e3⟩ := Reps.prs r h2
        have hx : xs = a.map D.int := by
          clear h
          induction xs generalizing a with
          | nil => cases h1; rfl
          | cons y ys ih =>
            cases y with
            | int i =>
              obtain ⟨qs,q1,rfl⟩ := Option.map_eq_some_iff.mp (show (D.ints ys).map _ = _ from h1)
              rw [List.map_cons,<- ih _ q1]
            | _ => cases h1
        subst hx
        refine ⟨by rw [List.length_cons,List.length_cons,e2],fun i u q hu hn => ?_⟩
        cases i with
        | zero =>
          have hu : v = u := by simpa using hu
          have hn : (a,k) = q := by simpa using hn
          subst hu hn
          obtain ⟨t,ws,rfl,hs,hr⟩ := h.tupS
          cases hr with
          | cons r1 r2 =>
            cases r2 with
            | cons r3 r4 =>
              cases r4
              cases r3
              obtain ⟨t2,ws2,rfl,hs2,hr2⟩ := r1.tupS
              rw [Reps.ints hr2 h1] at hs2
              exact ⟨⟨t,t2,rfl,hs,hs2⟩,h⟩
        | succ i => exact e3 i u q (by simpa using hu) (by simpa using hn)
      · cases e
    · cases e
theorem iOa {ps qs : List (List Int × Int)} (h1 : qs.Perm ps) (h2 : qs.Pairwise fun x y => pltB y x = false) : qs = psort ps := by
  refine List.Perm.eq_of_pairwise (le := fun x y => pltB y x = false) (fun a b _ _ h g => SoT.plt_tot a b g h) h2 ((List.pairwise_mergeSort (le := fun a b => !pltB b a) (fun a b c h g => ?_) (fun a b => ?_) ps).imp fun h => by simpa using h) (h1.trans (List.mergeSort_perm _ _).symm)
  · simp only [Bool.not_eq_true'] at h g ⊢
    exact SoT.plt_tr a b c h g
  · cases e : pltB b a with
    | false => rfl
    | true => rw [SoT.plt_asym _ _ e]; rfl
section
variable {X : Cx}
theorem bBa (hg : X.A.guards = some []) (hu : X.A.units + 64 < cLine) : CallR X (.builtin "repr") (fun xs H Q => ∃ v q,xs = [v] /\ Dp X.K H v q /\ q.plain = true /\ q.showable = true /\ q.shown.length <= sizeLine /\ q.depth <= 60 /\ Q (.str q.shown) H) := by
  intro pins s σ H xs us Q I r h
  obtain ⟨v,q,rfl,hd,hp,hs,hl,hz,k⟩ := h
  obtain ⟨u,rfl,ru⟩ := vals1 r
  obtain ⟨as,rd⟩ := Dp.reads I q v u hd ru
  have ref : ∀ a,u = .ref a -> wpAny (model X.prog X.w) X.A (call (.builtin "repr") [u]) (EP X pins σ Q) X.xe s := fun a e => by
    subst e
    exact repr_of_reads' rd hs (fun z => by rw [mC.1 q hp] at z; cases z) hg (by omega) (fun _ _ e => e) (fun h' u tk hk => ⟨.str _,H,I.kept hk,⟨_,rfl⟩,k⟩) hl
  cases rd with
  | none =>
    simp only [PyData.shown] at k
    exact PySem.P.repr_of_none ⟨.str _,H,I.tok _,⟨_,rfl⟩,k⟩
  | bool b =>
    simp only [PyData.shown] at k
    exact PySem.P.repr_of_bool ⟨.str _,H,I.tok _,⟨_,rfl⟩,by cases b <;> exact k⟩
  | int i t =>
    simp only [PyData.shown] at k
    simp only [PyData.showable,decide_eq_true_eq] at hs
    exact PySem.P.repr_of_int hs ⟨.str _,H,I.tok _,⟨_,rfl⟩,k⟩
  | str x t =>
    simp only [PyData.shown] at k hl
    exact PySem.P.repr_of_str ⟨.str _,H,I.tok _,⟨_,rfl⟩,k⟩ hl
  | list h1 h2 h3 h4 => exact ref _ rfl
  | tuple h1 h2 h3 h4 => exact ref _ rfl
  | dict h1 h2 h3 h4 h5 => simp only [PyData.plain] at hp; cases hp
theorem oM : ∀ {kss : List (List Key)} {nss : List (List Int)},D.tintss (kss.map fun ks => .tup (ks.map kD)) = some nss -> kss.map (fun ks => ks.map kV) = nss.map (fun ns => ns.map V.int) /\ kss.map (fun ks => D.tup (ks.map kD)) = nss.map (fun ns => .tup (ns.map .int))
  | [],_,e => by
    cases e
    exact ⟨rfl,rfl⟩
  | ks :: r,nss,e => by
    rw [List.map_cons] at e
    unfold D.tintss at e
    split at e
    · rename_i a b h1 h2
      cases e
      obtain ⟨e1,e2⟩ := oM h2
      have h1 : D.ints (ks.map kD) = some a := h1
      have e3 : ks.map kV = a.map V.int /\ ks.map kD = a.map D.int := by
        clear e1 e2 h2
        induction ks generalizing a with
        | nil => cases h1; exact ⟨rfl,rfl⟩
        | cons k r ih =>
          cases k with
          | inl i =>
            obtain ⟨qs,q1,rfl⟩ := Option.map_eq_some_iff.mp (show (D.ints (r.map kD)).map _ = _ from h1)
            obtain ⟨h3,h4⟩ := ih _ q1 q1
            exact ⟨by rw [List.map_cons,List.map_cons,h3]; rfl,by rw [List.map_cons,List.map_cons,h4]; rfl⟩
          | inr x => cases h1
      exact ⟨by rw [List.map_cons,List.map_cons,e1,e3.1],by rw [List.map_cons,List.map_cons,e2,e3.2]⟩
    · cases e
theorem repsK {K : PySem.W.Frag} {p : Pm} {H : Hp} : ∀ {xs : List D} {vs : List V} {qs : List (Key × D)},Reps K p H vs xs -> pairsK xs = some qs -> ∃ (as : List Addr) (kvs : List (Key × V)),vs = as.map V.ref /\ Paired (fun p kv => SqT K H p [kV kv.1,kv.2]) as kvs /\ RepX K p H kvs qs
  | [],_,_,h,e => by
    cases e
    cases h
    exact ⟨[],[],rfl,.nil,.nil⟩
  | x :: xs,_,qs,.cons h r,e => by
    unfold pairsK at e
    split at e
    · rename_i e0
      cases e0
    · rename_i k v r' e0
      cases e0
      split at e
      · rename_i a b h1 h2
        cases e
        obtain ⟨as,kvs,rfl,hp,hx⟩ := repsK r h2
        obtain ⟨t,ws,rfl,ht,hr⟩ := h.tupS
        obtain ⟨w1,w2,rfl,r1,r2⟩ := (show ∃ w1 w2,ws = [w1,w2] /\ Rep K p H w1 k /\ Rep K p H w2 v by
          cases hr with
          | cons g1 g2 =>
            cases g2 with
            | cons g2 g3 =>
              cases g3
              exact ⟨_,_,rfl,g1,g2⟩)
        rw [dP h1 r1] at ht
        exact ⟨t :: as,(a,w2) :: kvs,rfl,.cons ht hp,.cons r2 hx⟩
      · cases e
    · cases e
theorem repsT {K : PySem.W.Frag} {p : Pm} {H : Hp} : ∀ {xs : List D} {vs : List V} {qs : List (List Key × D)},Reps K p H vs xs -> pairsT xs = some qs -> ∃ (as : List Addr) (kvs : List (List Key × V)),vs = as.map V.ref /\ PairsAt K H as kvs /\ RepX K p H kvs qs
  | [],_,_,h,e => by
    cases e
    cases h
    exact ⟨[],[],rfl,.nil,.nil⟩
  | x :: xs,_,qs,.cons h r,e => by
    unfold pairsT at e
    split at e
    · rename_i e0
      cases e0
    · rename_i k v r' e0
      cases e0
      split at e
      · rename_i a b h1 h2
        cases e
        obtain ⟨as,kvs,rfl,hp,hx⟩ := repsT r h2
        obtain ⟨t,ws,rfl,ht,hr⟩ := h.tupS
        obtain ⟨w1,w2,rfl,r1,r2⟩ := (show ∃ w1 w2,ws = [w1,w2] /\ Rep K p H w1 k /\ Rep K p H w2 v by
          cases hr with
          | cons g1 g2 =>
            cases g2 with
            | cons g2 g3 =>
              cases g3
              exact ⟨_,_,rfl,g1,g2⟩)
        obtain ⟨bb,rfl,hb⟩ := jC h1 r1
        exact ⟨t :: as,(a,w2) :: kvs,rfl,.cons ⟨bb,ht,hb⟩ hp,.cons r2 hx⟩
      · cases e
    · cases e
theorem dkeys : ∀ {kvs : List (Key × D)} {ns : List Int},D.ints (kvs.map fun kv => kD kv.1) = some ns -> kvs.map (·.1) = ns.map Sum.inl
  | [],ns,e => by cases e; rfl
  | (.inr x,d) :: r,ns,e => by cases e
  | (.inl i,d) :: r,ns,e => by
    rw [List.map_cons] at e
    have e : (D.ints (r.map fun kv => kD kv.1)).map (i :: ·) = some ns := e
    cases e2 : D.ints (r.map fun kv => kD kv.1) with
    | none => rw [e2] at e; cases e
    | some ms =>
      rw [e2] at e
      cases e
      rw [List.map_cons,List.map_cons,dkeys e2]
theorem hNa (hc : X.calm = true) (hg : X.A.guards = some []) (hu : X.A.units + 64 < cLine) (f : Bi) : CallR X f.val (rBi X.K f) := by
  intro pins s σ H xs us Q I r h
  obtain ⟨p,ds,hnt,hS,q⟩ := h
  cases f
  case len =>
    rcases ds with _ | ⟨d,_ | ⟨e,ds⟩⟩
    · exact False.elim q
    · obtain ⟨v,rfl,hv⟩ := hS.one
      cases d
      case lst ys =>
        obtain ⟨a,vs,rfl,ha,ra⟩ := hv
        exact call_len pins s σ H _ us Q I r ⟨_,_,rfl,.inl ⟨vs,ha.sq,rfl⟩,by rw [ra.len]; exact q.2 _ _ .int⟩
      case tup ys =>
        obtain ⟨a,vs,rfl,ha,ra⟩ := hv.tup
        exact call_len pins s σ H _ us Q I r ⟨_,_,rfl,.inr ⟨vs,ha,rfl⟩,by rw [ra.len]; exact q.2 _ _ .int⟩
      case ptup ys =>
        obtain ⟨a,vs,rfl,ha,_,ra⟩ := Rep.ptupS hv
        exact call_len pins s σ H _ us Q I r ⟨_,_,rfl,.inr ⟨vs,ha,rfl⟩,by rw [ra.len]; exact q.2 _ _ .int⟩
      case vtup ys =>
        obtain ⟨a,vs,rfl,ha,_,ra⟩ := Rep.vtupS hv
        exact call_len pins s σ H _ us Q I r ⟨_,_,rfl,.inr ⟨vs,ha,rfl⟩,by rw [ra.len]; exact q.2 _ _ .int⟩
      case dct ys =>
        obtain ⟨a,kvs,rfl,ha,ra⟩ := hv
        obtain ⟨u,rfl,rx⟩ := r.one
        cases rx
        exact d_len I ha fun t s' I' => ⟨.int _,H,I',⟨_,rfl⟩,by rw [ra.x.len]; exact q.2 _ _ .int⟩
      case dctT ys =>
        obtain ⟨a,kvs,rfl,ha,ra⟩ := hv
        obtain ⟨u,rfl,rx⟩ := r.one
        cases rx
        obtain ⟨z,hd,ks,rel,dd⟩ := dt_rd I.hok ha
        have hl : kvs.length = ks.length := Paired.length rel
        refine call_len_dictH hd dd (by rw [<- hl]; rw [sizeLine_eq] at z; omega) ?_
        rw [<- hl]
        exact ⟨.int _,H,I.tok _,⟨_,rfl⟩,by rw [ra.x.len]; exact q.2 _ _ .int⟩
      case str x =>
        obtain rfl := hv.str
        exact call_len pins s σ H _ us Q I r ⟨_,_,rfl,⟨q.1,rfl⟩,q.2 _ _ .int⟩
      all_goals exact False.elim q
    · cases d <;> exact False.elim q
  case abs =>
    rcases ds with _ | ⟨d,_ | ⟨e,ds⟩⟩
    · exact False.elim q
    · obtain ⟨v,rfl,hv⟩ := hS.one
      cases d
      case int i =>
        obtain rfl := hv.int
        exact call_abs pins s σ H _ us Q I r ⟨_,rfl,q.2 _ _ .int⟩
      all_goals exact False.elim q
    · cases d <;> exact False.elim q
  case sum =>
    rcases ds with _ | ⟨d,_ | ⟨e,ds⟩⟩
    · exact False.elim q
    · obtain ⟨v,rfl,hv⟩ := hS.one
      cases d
      case lst ys =>
        obtain ⟨a,vs,rfl,ha,ra⟩ := hv
        have q : ok (opt ((D.ints ys).map fun ns => D.int ns.sum)) _ := q
        cases e : D.ints ys with
        | none =>
          rw [e] at q
          exact False.elim q
        | some ns =>
          rw [e] at q
          obtain rfl := ra.ints e
          exact cr_sum hc pins s σ H _ us Q I r ⟨a,ns,rfl,ha.sq,q.2 _ _ .int⟩
      case tup ys =>
        obtain ⟨a,vs,rfl,ha,ra⟩ := hv.tup
        have q : ok (opt ((D.ints ys).map fun ns => D.int ns.sum)) _ := q
        cases e : D.ints ys with
        | none =>
          rw [e] at q
          exact False.elim q
        | some ns =>
          rw [e] at q
          obtain rfl := ra.ints e
          exact bZa hc pins s σ H _ us Q I r ⟨a,ns,rfl,ha,q.2 _ _ .int⟩
      all_goals exact False.elim q
    · cases d <;> exact False.elim q
  case max =>
    rcases ds with _ | ⟨d,_ | ⟨e,ds⟩⟩
    · exact False.elim q
    · obtain ⟨v,rfl,hv⟩ := hS.one
      cases d
      case lst ys =>
        obtain ⟨a,vs,rfl,ha,ra⟩ := hv
        have q : ok (match D.ints ys with
          | some ns => opt (ns.max?.map D.int)
          | none => none) _ := q
        cases e : D.ints ys with
        | none =>
          rw [e] at q
          exact False.elim q
        | some ns =>
          rw [e] at q
          cases e2 : ns.max? with
          | none =>
            simp only [e2] at q
            exact False.elim q
          | some m =>
            simp only [e2] at q
            obtain rfl := ra.ints e
            obtain ⟨m1,m2⟩ := List.max?_eq_some_iff.mp e2
            refine cr_max hc pins s σ H _ us Q I r ⟨a,ns,rfl,ha.sq,List.length_pos_of_mem m1,fun m' h1 h2 => ?_⟩
            have : m' = m := by
              have := m2 m' h1
              have := h2 m m1
              omega
            subst this
            exact q.2 _ _ ⟨rfl,.int _⟩
      case tup ys =>
        obtain ⟨a,vs,rfl,ha,ra⟩ := hv.tup
        have q : ok (match D.ints ys with
          | some ns => opt (ns.max?.map D.int)
          | none => none) _ := q
        cases e : D.ints ys with
        | none =>
          rw [e] at q
          exact False.elim q
        | some ns =>
          rw [e] at q
          cases e2 : ns.max? with
          | none =>
            simp only [e2] at q
            exact False.elim q
          | some m =>
            simp only [e2] at q
            obtain rfl := ra.ints e
            obtain ⟨m1,m2⟩ := List.max?_eq_some_iff.mp e2
            refine bRa hc pins s σ H _ us Q I r ⟨a,ns,rfl,ha,List.length_pos_of_mem m1,fun m' h1 h2 => ?_⟩
            have : m' = m := by
              have := m2 m' h1
              have := h2 m m1
              omega
            subst this
            exact q.2 _ _ ⟨rfl,.int _⟩
      all_goals exact False.elim q
    · cases d <;> exact False.elim q
  case min =>
    rcases ds with _ | ⟨d,_ | ⟨e,ds⟩⟩
    · exact False.elim q
    · obtain ⟨v,rfl,hv⟩ := hS.one
      cases d
      case lst ys =>
        obtain ⟨a,vs,rfl,ha,ra⟩ := hv
        have q : ok (match D.ints ys with
          | some ns => opt (ns.min?.map D.int)
          | none => none) _ := q
        cases e : D.ints ys with
        | none =>
          rw [e] at q
          exact False.elim q
        | some ns =>
          rw [e] at q
          cases e2 : ns.min? with
          | none =>
            simp only [e2] at q
            exact False.elim q
          | some m =>
            simp only [e2] at q
            obtain rfl := ra.ints e
            obtain ⟨m1,m2⟩ := List.min?_eq_some_iff.mp e2
            refine cr_min hc pins s σ H _ us Q I r ⟨a,ns,rfl,ha.sq,List.length_pos_of_mem m1,fun m' h1 h2 => ?_⟩
            have : m' = m := by
              have := m2 m' h1
              have := h2 m m1
              omega
            subst this
            exact q.2 _ _ ⟨rfl,.int _⟩
      case tup ys =>
        obtain ⟨a,vs,rfl,ha,ra⟩ := hv.tup
        have q : ok (match D.ints ys with
          | some ns => opt (ns.min?.map D.int)
          | none => none) _ := q
        cases e : D.ints ys with
        | none =>
          rw [e] at q
          exact False.elim q
        | some ns =>
          rw [e] at q
          cases e2 : ns.min? with
          | none =>
            simp only [e2] at q
            exact False.elim q
          | some m =>
            simp only [e2] at q
            obtain rfl := ra.ints e
            obtain ⟨m1,m2⟩ := List.min?_eq_some_iff.mp e2
            refine bSa hc pins s σ H _ us Q I r ⟨a,ns,rfl,ha,List.length_pos_of_mem m1,fun m' h1 h2 => ?_⟩
            have : m' = m := by
              have := m2 m' h1
              have := h2 m m1
              omega
            subst this
            exact q.2 _ _ ⟨rfl,.int _⟩
      all_goals exact False.elim q
    · cases d <;> exact False.elim q
  case sorted =>
    rcases ds with _ | ⟨d,_ | ⟨e,ds⟩⟩
    · exact False.elim q
    · obtain ⟨v,rfl,hv⟩ := hS.one
      cases d
      case lst ys =>
        obtain ⟨a,vs,rfl,ha,ra⟩ := hv
        have q : ok (sortV ys) _ := q
        unfold sortV at q
        cases e : D.ints ys with
        | some ns =>
          rw [e] at q
          obtain rfl := ra.ints e
          refine cr_sortedI pins s σ H _ us Q I r ⟨a,ns,rfl,ha.sq,fun ms b h1 h2 h3 => ?_⟩
          rw [mH h1 h2]
          refine q.2 _ _ ⟨b,_,rfl,h3,rfl,?_⟩
          clear q
          induction isort ns with
          | nil => exact .nil
          | cons x r ih => exact .cons (.int _) ih
        | none =>
          rw [e] at q
          cases e2 : D.tintss ys with
          | none =>
            simp only [e2] at q
            cases e3 : D.strs ys with
            | none =>
              rw [e3] at q
              exact False.elim q
            | some ss =>
              rw [e3] at q
              obtain ⟨⟨q1,q2⟩,q3⟩ := q
              obtain rfl := ra.strsV e3
              refine cr_sortedS pins s σ H _ us Q I r ⟨a,ss,rfl,ha.sq,q1,fun ms b h1 h2 h3 => ?_⟩
              rw [q2 ms h1 h2]
              refine q3 _ _ ⟨b,_,rfl,h3,rfl,?_⟩
              clear q3
              induction ssort ss with
              | nil => exact .nil
              | cons x r ih => exact .cons (.str _) ih
          | some nss =>
            simp only [e2] at q
            obtain ⟨e3,e4,e5⟩ := ra.tints e2
            have fnd : ∀ x ∈ vs,∃ ns,(vs.zip nss).lookup x = some ns /\ ∃ i : Nat,vs[i]? = some x /\ nss[i]? = some ns := fun x hx => by
              clear q ra e2 e3 e5 ha r
              induction vs generalizing nss with
              | nil => cases hx
              | cons y r ih =>
                cases nss with
                | nil => simp at e4
                | cons z t =>
                  rw [List.zip_cons_cons]
                  by_cases exy : x = y
                  · subst exy
                    exact ⟨z,by rw [List.lookup_cons]; simp,0,rfl,rfl⟩
                  · have : (x == y) = false := by simpa using exy
                    rw [List.lookup_cons,this]
                    obtain ⟨ns,l1,i,l2,l3⟩ := ih t (by simpa using e4) (by
                      rcases List.mem_cons.mp hx with q | q
                      · exact absurd q exy
                      · exact q)
                    exact ⟨ns,l1,i + 1,l2,l3⟩
            let k : V -> List Int := fun x => ((vs.zip nss).lookup x).getD []
            have hk : ∀ x ∈ vs,(∃ t,x = .ref t /\ SqT X.K H t ((k x).map V.int)) /\ Rep X.K p H x (.tup ((k x).map .int)) := fun x hx => by
              obtain ⟨ns,l1,i,l2,l3⟩ := fnd x hx
              show (∃ t,x = .ref t /\ SqT X.K H t ((((vs.zip nss).lookup x).getD []).map V.int)) /\ _
              have : k x = ns := by
                show ((vs.zip nss).lookup x).getD [] = ns
                rw [l1]
                rfl
              rw [this,l1]
              exact e5 i x ns l2 l3
            have kn : vs.map k = nss := by
              refine List.ext_getElem? fun i => ?_
              rw [List.getElem?_map]
              by_cases hi : i < vs.length
              · rw [List.getElem?_eq_getElem hi,List.getElem?_eq_getElem (by omega)]
                obtain ⟨⟨t,et,h1⟩,_⟩ := e5 i _ _ (List.getElem?_eq_getElem hi) (List.getElem?_eq_getElem (show i < nss.length by omega))
                obtain ⟨⟨t',et',h2⟩,_⟩ := hk _ (List.getElem_mem hi)
                rw [et] at et'
                cases et'
                have := I.tuple_inj h1 h2
                exact congrArg some ((List.map_inj_right (fun a b h => V.int.inj h)).mp this).symm
              · rw [List.getElem?_eq_none (by omega),List.getElem?_eq_none (by omega)]
                rfl
            refine cr_sortT hu pins s σ H _ us Q I r ⟨a,vs,k,rfl,ha.sq,fun x hx => (hk x hx).1,fun zs b h1 h2 h3 => ?_⟩
            have e6 : zs.map k = tsort nss := tsort_eq (by rw [<- kn]; exact h2.perm.map k) (List.pairwise_map.mpr h1)
            refine q.2 _ _ ⟨b,zs,rfl,h3,rfl,?_⟩
            rw [<- e6,List.map_map]
            have hz : ∀ z ∈ zs,Rep X.K p H z (.tup ((k z).map .int)) := fun z hz => (hk z (h2.perm.mem_iff.mp hz)).2
            clear q h1 h2 e6
            induction zs with
            | nil => exact .nil
            | cons z r ih => exact .cons (hz z (List.mem_cons_self ..)) (ih fun y hy => hz y (List.mem_cons_of_mem _ hy))
      case tup ys =>
        obtain ⟨a,vs,rfl,ha,ra⟩ := hv.tupS
        have q : ok (match D.prs ys with
          | some ps => yes (D.lst ((psort ps).map prD))
          | none => none) _ := q
        cases e : D.prs ys with
        | none =>
          rw [e] at q
          exact False.elim q
        | some nss =>
          rw [e] at q
          obtain ⟨e4,e5⟩ := ra.prs e
          have fnd : ∀ x ∈ vs,∃ ns,(vs.zip nss).lookup x = some ns /\ ∃ i : Nat,vs[i]? = some x /\ nss[i]? = some ns := fun x hx => by
            clear q ra e e5 ha r hv
            induction vs generalizing nss with
            | nil => cases hx
            | cons y r ih =>
              cases nss with
              | nil => simp at e4
              | cons z t =>
                rw [List.zip_cons_cons]
                by_cases exy : x = y
                · subst exy
                  exact ⟨z,by rw [List.lookup_cons]; simp,0,rfl,rfl⟩
                · have : (x == y) = false := by simpa using exy
                  rw [List.lookup_cons,this]
                  obtain ⟨ns,l1,i,l2,l3⟩ := ih t (by simpa using e4) (by
                    rcases List.mem_cons.mp hx with q | q
                    · exact absurd q exy
                    · exact q)
                  exact ⟨ns,l1,i + 1,l2,l3⟩
          let k : V -> List Int × Int := fun x => ((vs.zip nss).lookup x).getD ([],0)
          have hk : ∀ x ∈ vs,(∃ t u,x = .ref t /\ SqT X.K H t [V.ref u,V.int (k x).2] /\ SqT X.K H u ((k x).1.map V.int)) /\ Rep X.K p H x (prD (k x)) := fun x hx => by
            obtain ⟨ns,l1,i,l2,l3⟩ := fnd x hx
            have : k x = ns := by
              show ((vs.zip nss).lookup x).getD ([],0) = ns
              rw [l1]
              rfl
            rw [this]
            exact e5 i x ns l2 l3
          have kn : vs.map k = nss := by
            refine List.ext_getElem? fun i => ?_
            rw [List.getElem?_map]
            by_cases hi : i < vs.length
            · rw [List.getElem?_eq_getElem hi,List.getElem?_eq_getElem (by omega)]
              obtain ⟨⟨t,u,et,h1,g1⟩,_⟩ := e5 i _ _ (List.getElem?_eq_getElem hi) (List.getElem?_eq_getElem (show i < nss.length by omega))
              obtain ⟨⟨t',u',et',h2,g2⟩,_⟩ := hk _ (List.getElem_mem hi)
              rw [et] at et'
              cases et'
              have j1 := I.tuple_inj h1 h2
              have j2 : u = u' := by
                have := (List.cons.inj j1).1
                cases this
                rfl
              have j3 : nss[i].2 = (k vs[i]).2 := by
                have := (List.cons.inj (List.cons.inj j1).2).1
                exact V.int.inj this
              subst j2
              have j4 := I.tuple_inj g1 g2
              exact congrArg some (Prod.ext ((List.map_inj_right (fun a b h => V.int.inj h)).mp j4).symm j3.symm)
            · rw [List.getElem?_eq_none (by omega),List.getElem?_eq_none (by omega)]
              rfl
          refine bXa hu pins s σ H _ us Q I r ⟨a,vs,k,rfl,ha,fun x hx => (hk x hx).1,fun zs b h1 h2 h3 => ?_⟩
          have e6 : zs.map k = psort nss := iOa (by rw [<- kn]; exact h2.perm.map k) (List.pairwise_map.mpr h1)
          refine q.2 _ _ ⟨b,zs,rfl,h3,rfl,?_⟩
          rw [<- e6,List.map_map]
          have hz : ∀ z ∈ zs,Rep X.K p H z (prD (k z)) := fun z hz => (hk z (h2.perm.mem_iff.mp hz)).2
          clear q h1 h2 e6
          induction zs with
          | nil => exact .nil
          | cons z r ih => exact .cons (hz z (List.mem_cons_self ..)) (ih fun y hy => hz y (List.mem_cons_of_mem _ hy))
      case dct kvs =>
        obtain ⟨a,ws,rfl,ha,ra⟩ := hv
        have q : ok (match D.ints (kvs.map fun kv => kD kv.1) with
          | some ns => some (ns.length < 64,D.lst ((isort ns).map .int))
          | none => none) _ := q
        cases e : D.ints (kvs.map fun kv => kD kv.1) with
        | none =>
          rw [e] at q
          exact False.elim q
        | some ns =>
          rw [e] at q
          have e0 : kvs.map (·.1) = ns.map Sum.inl := dkeys e
          refine call_sortedDI hc pins s σ H _ us Q I r ⟨a,ws,ns,rfl,ha,by rw [ra.x.keys]; exact e0,q.1,fun ys b h1 h2 h3 => ?_⟩
          refine q.2 _ _ ⟨b,_,rfl,h3,rfl,?_⟩
          have e1 : isort ns = ys := (List.Perm.eq_of_pairwise (le := fun a b : Int => a <= b) (fun a b _ _ h g => Int.le_antisymm h g) h2 ((List.pairwise_mergeSort (le := fun a b : Int => decide (a <= b)) (fun a b c h g => by simp at h g ⊢; omega) (fun a b => by simp; omega) ns).imp fun h => by simpa using h) (h1.trans (List.mergeSort_perm _ _).symm)).symm
          rw [e1]
          clear q h1 h2 e1
          induction ys with
          | nil => exact .nil
          | cons y r ih => exact .cons (.int y) ih
      case dctT kvs =>
        obtain ⟨a,ws,rfl,ha,ra⟩ := hv
        have q : ok (match D.tintss (kvs.map fun kv => .tup (kv.1.map kD)) with
          | some nss => yes (D.lst ((tsort nss).map fun ns => D.tup (ns.map D.int)))
          | none => none) _ := q
        cases e : D.tintss (kvs.map fun kv => .tup (kv.1.map kD)) with
        | none =>
          rw [e] at q
          exact False.elim q
        | some nss =>
          rw [e] at q
          have e0 : kvs.map (fun kv => D.tup (kv.1.map kD)) = (kvs.map (·.1)).map fun ks => .tup (ks.map kD) := by rw [List.map_map]; rfl
          rw [e0] at e
          obtain ⟨e1,_⟩ := oM e
          refine bVa hc hu pins s σ H _ us Q I r ⟨a,ws,nss,rfl,ha,?_,fun ts b h1 h2 h3 => ?_⟩
          · rw [<- e1,<- ra.x.keys,List.map_map]
            rfl
          · refine q.2 _ _ ⟨b,_,rfl,h3,rfl,?_⟩
            have hl : (tsort nss).length = nss.length := List.length_mergeSort ..
            have key : ∀ (ts : List Addr) (ms : List (List Int)),ts.length = ms.length -> (∀ (i : Nat) t ns,ts[i]? = some t -> ms[i]? = some ns -> H t = some (.tup (ns.map V.int))) -> Reps X.K p H (ts.map V.ref) (ms.map fun ns => .tup (ns.map .int)) := by
              intro ts
              induction ts with
              | nil =>
                intro ms hl _
                cases ms with
                | nil => exact .nil
                | cons => simp at hl
              | cons t r ih =>
                intro ms hl hh
                cases ms with
                | nil => simp at hl
                | cons m ms =>
                  have h0 := hh 0 t m rfl rfl
                  refine .cons (.tup h0 (hnt t _ h0) ?_) (ih ms (by simpa using hl) fun i t ns e1 e2 => hh (i + 1) t ns (by simpa using e1) (by simpa using e2))
                  clear hh h0 hl
                  induction m with
                  | nil => exact .nil
                  | cons x r ih => exact .cons (.int x) ih
            exact key ts _ (by rw [hl]; exact h1) h2
      all_goals exact False.elim q
    · cases d <;> exact False.elim q
  case all =>
    rcases ds with _ | ⟨d,_ | ⟨e,ds⟩⟩
    · exact False.elim q
    · obtain ⟨v,rfl,hv⟩ := hS.one
      cases d
      case lst ys =>
        obtain ⟨a,vs,rfl,ha,ra⟩ := hv
        have q : ok (opt ((D.bools ys).map fun ns => D.bl (ns.all id))) _ := q
        cases e : D.bools ys with
        | none =>
          rw [e] at q
          exact False.elim q
        | some ns =>
          rw [e] at q
          obtain rfl := ra.bools e
          exact cr_all hc pins s σ H _ us Q I r ⟨a,ns,rfl,ha.sq,q.2 _ _ .bl⟩
      all_goals exact False.elim q
    · cases d <;> exact False.elim q
  case any =>
    rcases ds with _ | ⟨d,_ | ⟨e,ds⟩⟩
    · exact False.elim q
    · obtain ⟨v,rfl,hv⟩ := hS.one
      cases d
      case lst ys =>
        obtain ⟨a,vs,rfl,ha,ra⟩ := hv
        have q : ok (opt ((D.bools ys).map fun ns => D.bl (ns.any id))) _ := q
        cases e : D.bools ys with
        | none =>
          rw [e] at q
          exact False.elim q
        | some ns =>
          rw [e] at q
          obtain rfl := ra.bools e
          exact cr_any hc pins s σ H _ us Q I r ⟨a,ns,rfl,ha.sq,q.2 _ _ .bl⟩
      all_goals exact False.elim q
    · cases d <;> exact False.elim q
  case max2 =>
    rcases ds with _ | ⟨d,_ | ⟨e,_ | ⟨g,ds⟩⟩⟩
    · exact False.elim q
    · cases d <;> exact False.elim q
    · obtain ⟨v,w,rfl,hv,hw⟩ := hS.two
      cases d <;> cases e
      case int.int i j =>
        obtain rfl := hv.int
        obtain rfl := hw.int
        exact call_max2 hc pins s σ H _ us Q I r ⟨_,_,rfl,q.2 _ _ .int⟩
      all_goals exact False.elim q
    · cases d <;> cases e <;> exact False.elim q
  case min2 =>
    rcases ds with _ | ⟨d,_ | ⟨e,_ | ⟨g,ds⟩⟩⟩
    · exact False.elim q
    · cases d <;> exact False.elim q
    · obtain ⟨v,w,rfl,hv,hw⟩ := hS.two
      cases d <;> cases e
      case int.int i j =>
        obtain rfl := hv.int
        obtain rfl := hw.int
        exact call_min2 hc pins s σ H _ us Q I r ⟨_,_,rfl,q.2 _ _ .int⟩
      all_goals exact False.elim q
    · cases d <;> cases e <;> exact False.elim q
  case int =>
    rcases ds with _ | ⟨d,_ | ⟨e,ds⟩⟩
    · exact False.elim q
    · obtain ⟨v,rfl,hv⟩ := hS.one
      cases d
      case int i =>
        obtain rfl := hv.int
        exact call_int1 pins s σ H _ us Q I r (.inl ⟨_,rfl,q.2 _ _ .int⟩)
      case bl i =>
        obtain rfl := hv.bl
        exact call_int1 pins s σ H _ us Q I r (.inr ⟨_,rfl,q.2 _ _ .int⟩)
      case str i =>
        obtain rfl := hv.str
        have q : ok (match PySem.intText? i with
          | some n => some (i.length <= 640,D.int n)
          | none => none) _ := q
        cases en : PySem.intText? i with
        | none => rw [en] at q; exact q.elim
        | some n =>
          rw [en] at q
          exact call_int_str pins s σ H _ us Q I r ⟨i,n,rfl,en,q.1,q.2 _ _ .int⟩
      all_goals exact False.elim q
    · cases d <;> exact False.elim q
  case bool =>
    rcases ds with _ | ⟨d,_ | ⟨e,ds⟩⟩
    · exact False.elim q
    · obtain ⟨v,rfl,hv⟩ := hS.one
      cases d
      case int i =>
        obtain rfl := hv.int
        exact call_bool1 pins s σ H _ us Q I r (.inl ⟨_,rfl,q.2 _ _ .bl⟩)
      all_goals exact False.elim q
    · cases d <;> exact False.elim q
  case str =>
    rcases ds with _ | ⟨d,_ | ⟨e,ds⟩⟩
    · exact False.elim q
    · obtain ⟨v,rfl,hv⟩ := hS.one
      cases d
      case int i =>
        obtain rfl := hv.int
        exact call_str_int pins s σ H _ us Q I r ⟨_,rfl,q.1,q.2 _ _ .str⟩
      case tup ys =>
        have q : ok (match (D.tup ys).py with | some p => some ((D.tup ys).rm <= 16777216 /\ (D.tup ys).dep <= 50,D.str p.shown) | none => none) _ := q
        cases e : (D.tup ys).py with
        | none =>
          rw [e] at q
          exact False.elim q
        | some t =>
          rw [e] at q
          obtain ⟨h1,h2⟩ := jV e q.1.1
          have h3 := q.1.1
          obtain ⟨u,rfl,ru⟩ := vals1 r
          have hdp := hv.dp e
          obtain ⟨as,rd⟩ := Dp.reads I t v u hdp ru
          obtain ⟨a,vs,rfl,_⟩ := hv.tup
          cases ru
          exact str_of_reads rd h1 (fun z => by rw [mC.1 t (aG e).2] at z; cases z) hg (by have := (aG e).1; have := q.1.2; omega) (fun _ _ e => e) (fun h' u tk hk => ⟨.str _,H,I.kept hk,⟨_,rfl⟩,q.2 _ _ .str⟩) (by rw [sizeLine_eq]; omega)
      all_goals exact False.elim q
    · cases d <;> exact False.elim q
  case repr =>
    rcases ds with _ | ⟨d,_ | ⟨e,ds⟩⟩
    · exact False.elim q
    · obtain ⟨v,rfl,hv⟩ := hS.one
      have q : ok (match d.py with | some p => some (d.rm <= 16777216 /\ d.dep <= 60,D.str p.shown) | none => none) _ := q
      cases e : d.py with
      | none =>
        rw [e] at q
        exact False.elim q
      | some t =>
        rw [e] at q
        obtain ⟨h1,h2⟩ := jV e q.1.1
        have h3 := q.1.1
        exact bBa hg hu pins s σ H _ us Q I r ⟨v,t,rfl,hv.dp e,(aG e).2,h1,by rw [sizeLine_eq]; omega,by rw [(aG e).1]; exact q.1.2,q.2 _ _ .str⟩
    · exact False.elim q
  case tuple =>
    rcases ds with _ | ⟨d,_ | ⟨e,ds⟩⟩
    · exact False.elim q
    · obtain ⟨v,rfl,hv⟩ := hS.one
      cases d
      case lst ys =>
        obtain ⟨a,vs,rfl,ha,ra⟩ := hv
        exact call_tuple_of pins s σ H _ us Q I r ⟨a,vs,rfl,.inl ⟨ha.sq,fun l hl => q.2 _ _ (.inl ⟨l,vs,rfl,hl,rfl,ra⟩)⟩⟩
      case tup ys =>
        have w := hv
        obtain ⟨a,vs,rfl,ha,ra⟩ := hv.tup
        exact call_tuple_of pins s σ H _ us Q I r ⟨a,vs,rfl,.inr ⟨ha,q.2 _ _ (.inr ⟨rfl,w⟩)⟩⟩
      all_goals exact False.elim q
    · cases d <;> exact False.elim q
  case list =>
    rcases ds with _ | ⟨d,_ | ⟨e,ds⟩⟩
    · exact False.elim q
    · obtain ⟨v,rfl,hv⟩ := hS.one
      cases d
      case lst ys =>
        obtain ⟨a,vs,rfl,ha,ra⟩ := hv
        exact call_list_of pins s σ H _ us Q I r ⟨a,vs,rfl,.inl ha.sq,fun l hl => q.2 _ _ ⟨l,vs,rfl,hl,rfl,ra⟩⟩
      case tup ys =>
        obtain ⟨a,vs,rfl,ha,ra⟩ := hv.tup
        exact call_list_of pins s σ H _ us Q I r ⟨a,vs,rfl,.inr ha,fun l hl => q.2 _ _ ⟨l,vs,rfl,hl,rfl,ra⟩⟩
      all_goals exact False.elim q
    · cases d <;> exact False.elim q
  case dictK =>
    rcases ds with _ | ⟨d,_ | ⟨e,ds⟩⟩
    · exact False.elim q
    · obtain ⟨v,rfl,hv⟩ := hS.one
      cases d
      case lst ys =>
        obtain ⟨a,vs,rfl,ha,ra⟩ := hv
        have q : ok (opt ((pairsK ys).map fun ps => D.dct (dAll [] ps))) _ := q
        cases e : pairsK ys with
        | none =>
          rw [e] at q
          exact False.elim q
        | some qs =>
          rw [e] at q
          obtain ⟨as,kvs,rfl,hp,hx⟩ := repsK ra e
          exact call_dictP hc pins s σ H _ us Q I r ⟨a,as,kvs,rfl,ha.sq,hp,fun b hb => q.2 _ _ ⟨b,_,rfl,hb,rfl,(RepX.all .nil hx).k⟩⟩
      all_goals exact False.elim q
    · cases d <;> exact False.elim q
  case dictT =>
    rcases ds with _ | ⟨d,_ | ⟨e,ds⟩⟩
    · exact False.elim q
    · obtain ⟨v,rfl,hv⟩ := hS.one
      cases d
      case lst ys =>
        obtain ⟨a,vs,rfl,ha,ra⟩ := hv
        have q : ok (opt ((pairsT ys).map fun ps => D.dctT (dAll [] ps))) _ := q
        cases e : pairsT ys with
        | none =>
          rw [e] at q
          exact False.elim q
        | some qs =>
          rw [e] at q
          obtain ⟨as,kvs,rfl,hp,hx⟩ := repsT ra e
          exact kU hc hu pins s σ H _ us Q I r ⟨a,as,kvs,rfl,.inl ha,hp,fun b hb => q.2 _ _ ⟨b,_,rfl,hb,rfl,(RepX.all .nil hx).t⟩⟩
      case ptup ys =>
        obtain ⟨a,vs,rfl,_,ha,ra⟩ := Rep.ptupS hv
        have q : ok (opt ((pairsT ys).map fun ps => D.dctT (dAll [] ps))) _ := q
        cases e : pairsT ys with
        | none =>
          rw [e] at q
          exact False.elim q
        | some qs =>
          rw [e] at q
          obtain ⟨as,kvs,rfl,hp,hx⟩ := repsT ra e
          exact kU hc hu pins s σ H _ us Q I r ⟨a,as,kvs,rfl,.inr ha,hp,fun b hb => q.2 _ _ ⟨b,_,rfl,hb,rfl,(RepX.all .nil hx).t⟩⟩
      all_goals exact False.elim q
    · cases d <;> exact False.elim q
  all_goals exact False.elim q
end
end Sp
set_option autoImplicit true
namespace Sp
open PySem PySem.Spec PyProof.Rows L2
inductive Sk where
  | lst (a : Addr) | tup (a : Addr) | str (x : Str) (t : Tok)
def Sk.seen (K : PySem.W.Frag) (H : Hp) : Sk -> List V -> Prop
  | .lst a,xs => SqL K H a xs
  | .tup a,xs => SqT K H a xs
  | .str x _,xs => xs = x.cps.toList.map fun c => V.str ⟨#[c]⟩
def Sk.iter : Sk -> Heap -> Addr -> Nat -> Prop
  | .lst a,h,it,i => h.IsListIter it a i
  | .tup a,h,it,i => h.IsTupleIter it a i
  | .str x t,h,it,i => h.IsStrIter it (strIterType x) x t i
def Sk.src : Sk -> List Addr
  | .lst a => [a]
  | .tup a => [a]
  | .str _ _ => []
def Sk.val : Sk -> Value
  | .lst a => .ref a
  | .tup a => .ref a
  | .str x t => .str x t
def Sk.obj : Sk -> Obj
  | .lst a => { cls := .type "list_iterator",data := .fields #[.ref a,.int 0 0] }
  | .tup a => { cls := .type "tuple_iterator",data := .fields #[.ref a,.int 0 0] }
  | .str x t => { cls := .type (strIterType x),data := .fields #[.str x t,.int 0 0] }
def Sk.holds (its : List Value) : Sk -> Heap -> Prop
  | .lst a,h => h.IsList a its.toArray
  | .tup a,h => h.IsTuple a its.toArray
  | .str _ _,_ => True
theorem Sk.begins (its : List Value) : ∀ k : Sk,Begins k.val k.obj (k.holds its)
  | .lst a => begins_list a its.toArray
  | .tup a => begins_tuple a its.toArray
  | .str x t => begins_text x t
theorem Sk.first : ∀ (k : Sk) {h : Heap} {it : Addr},h.get? it = some k.obj -> k.iter h it 0
  | .lst _,_,_,e => ⟨_,e,rfl,rfl⟩
  | .tup _,_,_,e => ⟨_,e,rfl,rfl⟩
  | .str _ _,_,_,e => ⟨_,e,rfl,rfl⟩
theorem Sk.obj_ok : ∀ (k : Sk) {h : Heap} {it : Addr} {i : Nat},k.iter h it i -> ∃ o,h.get? it = some o /\ ∀ v,o.data ≠ .cell v
  | .lst _,_,_,_,⟨o,e,_,d⟩ => ⟨o,e,fun v z => by rw [d] at z; cases z⟩
  | .tup _,_,_,_,⟨o,e,_,d⟩ => ⟨o,e,fun v z => by rw [d] at z; cases z⟩
  | .str _ _,_,_,_,⟨o,e,_,d⟩ => ⟨o,e,fun v z => by rw [d] at z; cases z⟩
theorem Sk.iter_at : ∀ (k : Sk) {h h' : Heap} {it : Addr} {i : Nat},k.iter h it i -> (∀ o,h.get? it = some o -> h'.get? it = some o) -> k.iter h' it i
  | .lst _,_,_,_,_,⟨o,e,r⟩,hk => ⟨o,hk o e,r⟩
  | .tup _,_,_,_,_,⟨o,e,r⟩,hk => ⟨o,hk o e,r⟩
  | .str _ _,_,_,_,_,⟨o,e,r⟩,hk => ⟨o,hk o e,r⟩
theorem Sk.draws {X : Cx} {pins : List (Addr × Obj)} {σ : L2.St} {H : Hp} {s : Shared} {A : Around} (I : Inv X pins σ H s) (hh : A.handled = none) : ∀ (k : Sk) {xs : List V} (it : Addr),k.seen X.K H xs -> it ∉ k.src ->
    ∃ its,k.holds its s.heap /\ (∀ b ∈ k.src,b < s.heap.objs.size) /\ Draws X.prog X.w A it (it :: k.src) xs.length (fun i v => ∃ x,xs[i]? = some x /\ RelV x v) (fun i h => k.iter h it i /\ k.holds its h)
  | .lst a,xs,it,h,hne => by
    obtain ⟨its,r,pl,hz⟩ := I.list h
    have hn : a ≠ it := fun e => hne (by rw [e]; exact List.mem_singleton_self _)
    have D := Draws.list (prog := X.prog) (w := X.w) hh it a hn its.toArray
    have hsz : its.toArray.size = xs.length := by rw [List.size_toArray,r.length]
    refine ⟨its,pl.isList,fun b hb => by rw [List.mem_singleton.mp hb]; exact pl.lt,?_⟩
    rw [<- hsz]
    exact ⟨D.live,D.frame,fun i s Q E hi st hQ => D.item i s Q E hi st fun x h' tk hx => hQ x h' tk (by
      have hi' : i < xs.length := by rw [<- hsz]; exact hi
      obtain ⟨u,hu,ru⟩ := r.get (List.getElem?_eq_getElem hi')
      have e : its[i]? = some x := by simpa using hx
      rw [hu] at e
      cases e
      exact ⟨_,List.getElem?_eq_getElem hi',ru⟩),D.done⟩
  | .tup a,xs,it,h,hne => by
    obtain ⟨its,r,pl,hz⟩ := I.tuple h
    have hn : a ≠ it := fun e => hne (by rw [e]; exact List.mem_singleton_self _)
    have D := Draws.tuple (prog := X.prog) (w := X.w) hh it a hn its.toArray
    have hsz : its.toArray.size = xs.length := by rw [List.size_toArray,r.length]
    obtain ⟨o,ho,hc,hd⟩ := id pl
    refine ⟨its,⟨o,ho,hc,hd⟩,fun b hb => by rw [List.mem_singleton.mp hb]; exact Heap.lt_size ho,?_⟩
    rw [<- hsz]
    exact ⟨D.live,D.frame,fun i s Q E hi st hQ => D.item i s Q E hi st fun x h' tk hx => hQ x h' tk (by
      have hi' : i < xs.length := by rw [<- hsz]; exact hi
      obtain ⟨u,hu,ru⟩ := r.get (List.getElem?_eq_getElem hi')
      have e : its[i]? = some x := by simpa using hx
      rw [hu] at e
      cases e
      exact ⟨_,List.getElem?_eq_getElem hi',ru⟩),D.done⟩
  | .str x t,xs,it,h,hne => by
    have D := Draws.text (prog := X.prog) (w := X.w) hh it x t
    have hsz : x.cps.size = xs.length := by rw [show xs = _ from h,List.length_map,Array.length_toList]
    refine ⟨[],trivial,fun b hb => absurd hb (by simp [Sk.src]),?_⟩
    rw [<- hsz]
    refine ⟨fun i h st => D.live i h st.1,fun i h h' st hk => ⟨D.frame i h h' st.1 hk,trivial⟩,fun i s Q E hi st hQ => D.item i s Q E hi st.1 fun v h' tk hx st' sb => hQ v h' tk ?_ ⟨st',trivial⟩ sb,fun s Q E st hE => D.done s Q E st.1 hE⟩
    obtain ⟨c,u,hc,rfl⟩ := hx
    refine ⟨.str ⟨#[c]⟩,?_,⟨u,rfl⟩⟩
    rw [show xs = _ from h,List.getElem?_map]
    have e : x.cps.toList[i]? = some c := by simpa using hc
    rw [e]
    rfl
theorem Sk.inj {X : Cx} {pins : List (Addr × Obj)} {σ : L2.St} {H : Hp} {s : Shared} (I : Inv X pins σ H s) : ∀ (k : Sk) {xs ys : List V},k.seen X.K H xs -> k.seen X.K H ys -> xs = ys
  | .lst _,_,_,h,h' => I.list_inj h h'
  | .tup _,_,_,h,h' => I.tuple_inj h h'
  | .str _ _,_,_,h,h' => (show _ = _ from h).trans (show _ = _ from h').symm
def ItE (K : PySem.W.Frag) (k : Sk) : It :=
  ⟨fun i H => ∃ (xs : List V) (x : V),k.seen K H xs /\ xs[i]? = some x,fun i H v H' => ∃ T x,v = .ref T /\ H T = none /\ H' = upd H T (.tup [.int (i : Nat),x]) /\ ∀ xs,k.seen K H xs -> xs[i]? = some x,fun i H => ∃ xs : List V,k.seen K H xs /\ i = xs.length⟩
theorem turnE {P : Program} {w : World} {K : PySem.W.Frag} {elts : List Expr} {kk : Nat} {tpos : Pos} (k : Sk) (e it : Addr) (hei : e ≠ it) (hes : e ∉ k.src) (his : it ∉ k.src) :
    Turn P w K (.Tuple elts kk tpos) (ItE K k) [e,it] e (fun i h => (∃ old,IsEnum h e it ((i : Nat) : Int) old) /\ k.iter h it i) where
  mem := by simp
  obj := fun i h st b hb => by
    have e' : b = e \/ b = it := by simpa using hb
    rcases e' with z | z
    · obtain ⟨⟨old,he⟩,_⟩ := st
      rw [z]
      exact ⟨_,he,fun v q => nomatch q⟩
    · rw [z]
      exact k.obj_ok st.2
  keep := fun i h h' st hk => let ⟨⟨old,he⟩,hi⟩ := st; ⟨⟨old,hk e (by simp) _ he⟩,k.iter_at hi fun o q => hk it (by simp) o q⟩
  item := by
    intro X hP hw hK hc i pins s σ H E I hf st hg
    subst hP hw hK
    obtain ⟨⟨old,he⟩,hit⟩ := st
    obtain ⟨xs,x,hq,hx⟩ := hg
    obtain ⟨its,hold,hlt,D⟩ := k.draws (A := X.A.in1) I (I.ok.hd hc) it hq his
    have hef : e ∉ it :: k.src := fun z => (List.mem_cons.mp z).elim hei hes
    have W := WalksT.enumFrom 0 D e hei hef (List.mem_cons_self ..)
    have hi : i < xs.length := (List.getElem?_eq_some_iff.mp hx).1
    have z0 : (0 : Int) + ((i : Nat) : Int) = ((i : Nat) : Int) := Int.zero_add _
    have z1 : (0 : Int) + (((i + 1 : Nat)) : Int) = ((i + 1 : Nat) : Int) := Int.zero_add _
    refine W.item i s _ _ hi ⟨⟨old,by rw [z0]; exact he⟩,hit,hold⟩ fun T vals h' tk hP hT hTup hM hk => ?_
    refine ⟨_,rfl,W.go elts kk tpos i T { s with heap := h',toks := tk } _ _ hM fun h2 st2 hk2 => ?_⟩
    obtain ⟨t,u,⟨y,hy,ru⟩,rfl⟩ := hP
    rw [hx] at hy
    cases hy
    obtain ⟨o,ho,hcl,n,hd⟩ := hTup
    have hT2 := hk2 T o (W.apart i T h' hM) ho
    have new : ObjOk X.prog X.w (upd H T (.tup [.int (i : Nat),x])) h2 T (.tup [.int (i : Nat),x]) :=
      ⟨by show 2 <= sizeLine; decide,[.int ((0 : Int) + (i : Nat)) t,u],.cons ⟨t,by rw [z0]⟩ (.cons ru .nil),⟨o,hT2,hcl,n,hd⟩⟩
    have I1 : Inv X pins σ (upd H T (.tup [.int (i : Nat),x])) { s with heap := h2,toks := tk } :=
      I.turnedNew (ch := [e,it]) (fun b ob hb q => hk2 b ob hb (hk b ob hb q)) hf hT new
    obtain ⟨⟨old2,he2⟩,hi2,_⟩ := st2
    refine ⟨.ref T,_,I1,rfl,⟨T,x,rfl,I.hok.fresh hT,rfl,fun ys hy => by rw [<- k.inj I hq hy]; exact hx⟩,⟨⟨old2,by rw [<- z1]; exact he2⟩,hi2⟩,fun b hb => ?_⟩
    have hb' : b < s.heap.objs.size := by
      have e' : b = e \/ b = it := by simpa using hb
      rcases e' with z | z
      · rw [z]; exact Heap.lt_size he
      · rw [z]
        obtain ⟨o',q,_⟩ := k.obj_ok hit
        exact Heap.lt_size q
    rw [upd_ne (Nat.ne_of_lt (Nat.lt_of_lt_of_le hb' hT))]
    exact (hf b hb).1
  done := by
    intro X hP hw hK hc i pins s σ H E I hf st hg
    subst hP hw hK
    obtain ⟨⟨old,he⟩,hit⟩ := st
    obtain ⟨xs,hq,rfl⟩ := hg
    obtain ⟨its,hold,hlt,D⟩ := k.draws (A := X.A.in1) I (I.ok.hd hc) it hq his
    have hef : e ∉ it :: k.src := fun z => (List.mem_cons.mp z).elim hei hes
    have W := WalksT.enumFrom 0 D e hei hef (List.mem_cons_self ..)
    exact W.done s _ _ ⟨⟨old,by rw [Int.zero_add]; exact he⟩,hit,hold⟩ fun h' tk hk => ⟨rfl,I.turnedL (ch := [e,it]) hk hf⟩
  self := fun A i s Q E st h => let ⟨⟨_,he⟩,_⟩ := st; wpAny_pyIter_enum he h
theorem fUa {v : Value} {o : Obj} {Hc : Heap -> Prop} (B : Begins v o Hc) :
    Meets (Builtin.«enumerate.__new__» ⟨[.type "enumerate",v],[]⟩) (fun _ R s => Hc s.heap /\
      R (.ok (.ret (.ref (s.heap.push o).objs.size))) { s with heap := (s.heap.push o).push { cls := .type "enumerate",data := .fields #[.none,.bool false,.ref s.heap.objs.size,rawInt 0,.none,.none] } }) :=
  .of_wp fun prog w A R s h => by
    obtain ⟨hp,g,d,tk,os⟩ := s
    obtain ⟨h1,h⟩ := h
    have hsub := sub_enumerate
    have q1 : ∀ {A' : Around} {E : Value -> Shared -> Prop} {Q : Value -> Shared -> Prop},Q (.ref hp.objs.size) ⟨hp.push o,g,d,tk,os⟩ -> wpAny (model prog w) A' (pyIter v) Q E ⟨hp,g,d,tk,os⟩ :=
      fun q => B.iter prog w _ _ ⟨hp,g,d,tk,os⟩ _ h1 q
    wp_walk using q1
    refine wpAny_stack_any fun st => wpAny_pure ?_
    split
    · rename_i c _ _ _ _ _
      cases (c == Value.type "enumerate")
      · wp_walk using q1
        exact ⟨_,rfl,h⟩
      · wp_walk using q1
        exact ⟨_,rfl,h⟩
    · wp_walk using q1
      exact ⟨_,rfl,h⟩
theorem enum1 {prog : Program} {w : World} {A : Around} {E : Value -> Shared -> Prop} {s : Shared} {v : Value} {o : Obj} {Hc : Heap -> Prop} {Q : Value -> Shared -> Prop} (B : Begins v o Hc) (h1 : Hc s.heap)
    (h : ∀ h',IsEnum h' (s.heap.objs.size + 1) s.heap.objs.size 0 .none -> h'.get? s.heap.objs.size = some o ->
      (∀ b o,s.heap.get? b = some o -> h'.get? b = some o) -> Q (.ref (s.heap.objs.size + 1)) { s with heap := h' }) :
    wpAny (model prog w) A (call (.type "enumerate") [v]) Q E s := by
  refine callType_new F.called_enumerate (by decide) (F.typeCall_enumerate_1 _) (F.newCall_enumerate_1 _) (fun obj => F.args_object_init_2 obj _) F.entry_enumerate_new (fUa B) ⟨h1,?_⟩
  have hz : (s.heap.push o).objs.size = s.heap.objs.size + 1 := Heap.size_push ..
  have he : IsEnum ((s.heap.push o).push { cls := .type "enumerate",data := .fields #[.none,.bool false,.ref s.heap.objs.size,rawInt 0,.none,.none] }) (s.heap.objs.size + 1) s.heap.objs.size 0 .none := by
    have w := Heap.get?_push_size (s.heap.push o) (o := { cls := .type "enumerate",data := .fields #[.none,.bool false,.ref s.heap.objs.size,rawInt 0,.none,.none] }) rfl
    rw [hz] at w
    exact w
  rw [hz]
  exact ⟨⟨_,he,rfl⟩,h _ he (Heap.get?_push_of_some _ (Heap.get?_push_size _ B.free)) fun b o x => Heap.get?_push_of_some _ (Heap.get?_push_of_some _ x)⟩
def ItZ (K : PySem.W.Frag) (k l : Sk) : It :=
  ⟨fun i H => ∃ (xs ys : List V) (x y : V),k.seen K H xs /\ l.seen K H ys /\ xs[i]? = some x /\ ys[i]? = some y,
    fun i H v H' => ∃ T x y,v = .ref T /\ H T = none /\ H' = upd H T (.tup [x,y]) /\ ∀ xs ys,k.seen K H xs -> l.seen K H ys -> xs[i]? = some x /\ ys[i]? = some y,
    fun i H => ∃ xs ys : List V,k.seen K H xs /\ l.seen K H ys /\ i = min xs.length ys.length⟩
theorem turnZ {P : Program} {w : World} {K : PySem.W.Frag} {elts : List Expr} {kk : Nat} {tpos : Pos} (k l : Sk) (z TI TO i1 i2 : Addr) (S : ZipSep2 z TI TO i1 i2 (i1 :: k.src) (i2 :: l.src)) (h1s : i1 ∉ k.src) (h2s : i2 ∉ l.src) :
    Turn P w K (.Tuple elts kk tpos) (ItZ K k l) [z,TI,TO,i1,i2] z (fun i h => IsZip h z TI TO .none /\ IsTupOf2 h TI (.ref i1) (.ref i2) /\ (∃ a1 a2,IsTupOf2 h TO a1 a2) /\ k.iter h i1 i /\ l.iter h i2 i) where
  mem := by simp
  obj := fun i h st b hb => by
    obtain ⟨hz,hTI,⟨x,y,hTO⟩,j1,j2⟩ := st
    have e' : b = z \/ b = TI \/ b = TO \/ b = i1 \/ b = i2 := by simpa using hb
    rcases e' with q | q | q | q | q
    · rw [q]; exact ⟨_,hz,fun v q => nomatch q⟩
    · rw [q]; exact ⟨_,hTI,fun v q => nomatch q⟩
    · rw [q]; exact ⟨_,hTO,fun v q => nomatch q⟩
    · rw [q]; exact k.obj_ok j1
    · rw [q]; exact l.obj_ok j2
  keep := fun i h h' st hk => by
    obtain ⟨hz,hTI,⟨x,y,hTO⟩,j1,j2⟩ := st
    exact ⟨hk z (by simp) _ hz,hk TI (by simp) _ hTI,⟨x,y,hk TO (by simp) _ hTO⟩,k.iter_at j1 fun o q => hk i1 (by simp) o q,l.iter_at j2 fun o q => hk i2 (by simp) o q⟩
  item := by
    intro X hP hw hK hc i pins s σ H E I hf st hg
    subst hP hw hK
    obtain ⟨hz,hTI,⟨x0,y0,hTO⟩,j1,j2⟩ := st
    obtain ⟨xs,ys,x,y,hqx,hqy,hx,hy⟩ := hg
    obtain ⟨its,hold,hlt,D1⟩ := k.draws (A := X.A.in1) I (I.ok.hd hc) i1 hqx h1s
    obtain ⟨its2,hold2,hlt2,D2⟩ := l.draws (A := X.A.in1) I (I.ok.hd hc) i2 hqy h2s
    have W := WalksT.zipD2 S D1 D2
    have hi : i < min xs.length ys.length := Nat.lt_min.mpr ⟨(List.getElem?_eq_some_iff.mp hx).1,(List.getElem?_eq_some_iff.mp hy).1⟩
    refine W.item i s _ _ hi ⟨hz,hTI,⟨_,_,hTO⟩,⟨j1,hold⟩,j2,hold2⟩ fun T vals h' tk hP hT hTup hM hk => ?_
    refine ⟨_,rfl,W.go elts kk tpos i T { s with heap := h',toks := tk } _ _ hM fun h2 st2 hk2 => ?_⟩
    obtain ⟨u1,u2,⟨y1,hy1,ru1⟩,⟨y2,hy2,ru2⟩,rfl⟩ := hP
    rw [hx] at hy1
    rw [hy] at hy2
    cases hy1
    cases hy2
    obtain ⟨o,ho,hcl,n,hd⟩ := hTup
    have hT2 := hk2 T o (W.apart i T h' hM) ho
    have new : ObjOk X.prog X.w (upd H T (.tup [x,y])) h2 T (.tup [x,y]) :=
      ⟨by show 2 <= sizeLine; decide,[u1,u2],.cons ru1 (.cons ru2 .nil),⟨o,hT2,hcl,n,hd⟩⟩
    have sub : ∀ b,b ∉ [z,TI,TO,i1,i2] -> b ∉ [z,TO,i1,i2] := fun b hb q => hb (by
      have : b = z \/ b = TO \/ b = i1 \/ b = i2 := by simpa using q
      simp only [List.mem_cons]
      rcases this with q | q | q | q <;> simp [q])
    have I1 : Inv X pins σ (upd H T (.tup [x,y])) { s with heap := h2,toks := tk } :=
      I.turnedNew (ch := [z,TI,TO,i1,i2]) (fun b ob hb q => hk2 b ob (sub b hb) (hk b ob (sub b hb) q)) hf hT new
    obtain ⟨z1,z2,z3,⟨z4,_⟩,z5,_⟩ := st2
    refine ⟨.ref T,_,I1,rfl,⟨T,x,y,rfl,I.hok.fresh hT,rfl,fun xs' ys' ex ey => by rw [<- k.inj I hqx ex,<- l.inj I hqy ey]; exact ⟨hx,hy⟩⟩,⟨z1,z2,z3,z4,z5⟩,fun b hb => ?_⟩
    have hb' : b < s.heap.objs.size := by
      have e' : b = z \/ b = TI \/ b = TO \/ b = i1 \/ b = i2 := by simpa using hb
      rcases e' with q | q | q | q | q
      · rw [q]; exact Heap.lt_size hz
      · rw [q]; exact Heap.lt_size hTI
      · rw [q]; exact Heap.lt_size hTO
      · rw [q]
        obtain ⟨o',q,_⟩ := k.obj_ok j1
        exact Heap.lt_size q
      · rw [q]
        obtain ⟨o',q,_⟩ := l.obj_ok j2
        exact Heap.lt_size q
    rw [upd_ne (Nat.ne_of_lt (Nat.lt_of_lt_of_le hb' hT))]
    exact (hf b hb).1
  done := by
    intro X hP hw hK hc i pins s σ H E I hf st hg
    subst hP hw hK
    obtain ⟨hz,hTI,⟨x0,y0,hTO⟩,j1,j2⟩ := st
    obtain ⟨xs,ys,hqx,hqy,rfl⟩ := hg
    obtain ⟨its,hold,hlt,D1⟩ := k.draws (A := X.A.in1) I (I.ok.hd hc) i1 hqx h1s
    obtain ⟨its2,hold2,hlt2,D2⟩ := l.draws (A := X.A.in1) I (I.ok.hd hc) i2 hqy h2s
    have W := WalksT.zipD2 S D1 D2
    refine W.done s _ _ ⟨hz,hTI,⟨_,_,hTO⟩,⟨j1,hold⟩,j2,hold2⟩ fun h' tk hk => ⟨rfl,I.turnedL (ch := [z,TI,TO,i1,i2]) (fun b o hb q => hk b o (fun q' => hb ?_) q) hf⟩
    have : b = z \/ b = TO \/ b = i1 \/ b = i2 := by simpa using q'
    simp only [List.mem_cons]
    rcases this with q | q | q | q <;> simp [q]
  self := fun A i s Q E st h => wpAny_pyIter_zip st.1 h
end Sp
set_option autoImplicit true
namespace Sp
open PySem PySem.Spec PyProof.Rows L2
section
variable {K : PySem.W.Frag} {p p' : Pm} {σ : L2.St} {H H' : Hp} {L : Loc} {cs cs' : Cells}
theorem Rl.move (R : Rl K p σ H L cs) (x : ExtE p p' H H') (ok : p'.Ok) (C : CsOk K p' H' cs') : Rl K p' σ H' L cs' := by
  refine ⟨ok,R.slen,fun i s e => ?_,fun i a e => R.ownL i a (by rw [<- x.own]; exact e),C,fun a h => ?_⟩
  · have q := R.slot i s e
    cases s with
    | no => trivial
    | val d =>
      obtain ⟨v,e1,r⟩ := q
      exact ⟨v,e1,r.mv x.ext.mv⟩
    | own d =>
      obtain ⟨b,e1,e2,c⟩ := q
      exact ⟨b,by rw [x.own]; exact e1,e2,c.mv x.ext.mv (x.keepO i b e1)⟩
  · rw [x.ext.rsv] at h
    have hb := R.rsv a h
    cases q : H a with
    | none => exact absurd q hb.1
    | some o =>
      have := x.ext.keep a o q (R.ok.rc a h) (R.ok.ro a h)
      rw [this,<- q]
      exact hb
theorem Rl.ownSome (R : Rl K p σ H L cs) {i : Nat} {a : Addr} (h : p.own i = some a) : H a ≠ none := by
  obtain ⟨d,e⟩ := R.ownL i a h
  obtain ⟨b,e1,_,c⟩ := R.slot i _ e
  rw [h] at e1
  cases e1
  exact c.some
abbrev Pm.drop (p : Pm) (i : Nat) : Pm := { p with own := fun j => if j = i then none else p.own j }
theorem Mv.drop {i : Nat} : Mv p (p.drop i) H H := by
  refine ⟨fun a u e n => ⟨e,fun q => n ?_⟩,fun _ _ e => e⟩
  rcases q with q | ⟨j,q⟩ | q
  · exact .inl q
  · have q : (if j = i then none else p.own j) = some a := q
    split at q
    · cases q
    · exact .inr (.inl ⟨j,q⟩)
  · exact .inr (.inr q)
theorem Pm.Ok.drop (h : p.Ok) (i : Nat) : (p.drop i).Ok := by
  have key : ∀ {j : Nat} {a : Addr},(p.drop i).own j = some a -> j ≠ i /\ p.own j = some a := fun {j a} e => by
    have e : (if j = i then none else p.own j) = some a := e
    split at e
    · cases e
    · exact ⟨by assumption,e⟩
  exact ⟨h.nd,fun j k a e1 e2 => h.inj j k a (key e1).2 (key e2).2,fun j a e => h.oc j a (key e).2,h.rc,fun a q j e => h.ro a q j (key e).2⟩
theorem aV {i : Nat} : Ext p (p.drop i) H H := by
  refine ⟨⟨[],by simp,by simp⟩,fun _ _ h _ _ => h,fun j a e => ?_,rfl,fun _ h => h⟩
  have e : (if j = i then none else p.own j) = some a := e
  split at e
  · cases e
  · exact .inl ⟨j,e⟩
theorem CsOk.mv (C : CsOk K p H cs) (m : Mv p p' H H') (e : p'.cell = p.cell) (k : ∀ b,H b ≠ none -> b ∈ p.cell -> H' b = H b) : CsOk K p' H' cs := by
  refine ⟨by rw [e]; exact C.len,fun n c a e1 e2 => ?_⟩
  rw [e] at e2
  have q := C.at_ n c a e1 e2
  exact q.mv m (k a q.some (List.mem_of_getElem? e2))
theorem Rl.store (R : Rl K p σ H L cs) {i : Nat} {v : V} {d : D} (hi : i < L.length) (r : Rep K p H v d) : Rl K (p.drop i) (σ.set i (some v)) H (L.set i (.val d)) cs := by
  refine ⟨R.ok.drop i,by rw [List.length_set,List.length_set]; exact R.slen,fun j s e => ?_,fun j a e => ?_,R.cells.mv Mv.drop rfl fun _ _ _ => rfl,R.rsv⟩
  · by_cases hj : j = i
    · subst hj
      rw [List.getElem?_set_self hi] at e
      cases e
      exact ⟨v,by rw [List.getElem?_set_self (by rw [<- R.slen]; exact hi)],r.mv Mv.drop⟩
    · rw [List.getElem?_set_ne (Ne.symm hj)] at e
      have q := R.slot j s e
      cases s with
      | no => trivial
      | val d' =>
        obtain ⟨w,e1,r1⟩ := q
        exact ⟨w,by rw [List.getElem?_set_ne (Ne.symm hj)]; exact e1,r1.mv Mv.drop⟩
      | own d' =>
        obtain ⟨b,e1,e2,c⟩ := q
        exact ⟨b,(if_neg hj).trans e1,by rw [List.getElem?_set_ne (Ne.symm hj)]; exact e2,c.mv Mv.drop rfl⟩
  · have e : (if j = i then none else p.own j) = some a := e
    split at e
    · cases e
    · rename_i hj
      obtain ⟨d',e'⟩ := R.ownL j a e
      exact ⟨d',by rw [List.getElem?_set_ne (Ne.symm hj)]; exact e'⟩
abbrev Pm.give (p : Pm) (i : Nat) (a : Addr) : Pm := { p with own := fun j => if j = i then some a else p.own j }
theorem Rl.give (R : Rl K (p.with a) σ H L cs) {i : Nat} {d : D} (hi : i < L.length) (hM : ¬ p.M a) (hH : Con K (p.with a) H a d) :
    Rl K (p.give i a) (σ.set i (some (.ref a))) H (L.set i (.own d)) cs := by
  have key : ∀ {j : Nat} {b : Addr},(p.give i a).own j = some b -> (j = i /\ b = a) \/ (j ≠ i /\ p.own j = some b) := fun {j b} e => by
    have e : (if j = i then some a else p.own j) = some b := e
    split at e
    · cases e
      exact .inl ⟨by assumption,rfl⟩
    · exact .inr ⟨by assumption,e⟩
  have m : Mv (p.with a) (p.give i a) H H := by
    refine ⟨fun b u e n => ⟨e,fun q => n ?_⟩,fun _ _ e => e⟩
    rcases q with q | ⟨j,q⟩ | q
    · exact .inl q
    · rcases key q with ⟨_,q⟩ | ⟨_,q⟩
      · exact .inr (.inr (.inl q))
      · exact .inr (.inl ⟨j,q⟩)
    · exact .inr (.inr (.inr q))
  refine ⟨⟨R.ok.nd,fun j k b e1 e2 => ?_,fun j b e => ?_,fun b h => R.ok.rc b (.inr h),fun b h j e => ?_⟩,by rw [List.length_set,List.length_set]; exact R.slen,fun j s e => ?_,fun j b e => ?_,R.cells.mv m rfl fun _ _ _ => rfl,fun b h => R.rsv b (.inr h)⟩
  · rcases key e1 with ⟨h1,q1⟩ | ⟨h1,q1⟩ <;> rcases key e2 with ⟨h2,q2⟩ | ⟨h2,q2⟩
    · rw [h1,h2]
    · subst q1
      exact (hM (.inr (.inl ⟨k,q2⟩))).elim
    · subst q2
      exact (hM (.inr (.inl ⟨j,q1⟩))).elim
    · exact R.ok.inj j k b q1 q2
  · rcases key e with ⟨h1,q1⟩ | ⟨h1,q1⟩
    · rw [q1]
      exact fun z => hM (.inl z)
    · exact R.ok.oc j b q1
  · rcases key e with ⟨h1,q1⟩ | ⟨h1,q1⟩
    · rw [q1] at h
      exact hM (.inr (.inr h))
    · exact R.ok.ro b (.inr h) j q1
  · by_cases hj : j = i
    · subst hj
      rw [List.getElem?_set_self hi] at e
      cases e
      exact ⟨a,if_pos rfl,by rw [List.getElem?_set_self (by rw [<- R.slen]; exact hi)],hH.mv m rfl⟩
    · rw [List.getElem?_set_ne (Ne.symm hj)] at e
      have q := R.slot j s e
      cases s with
      | no => trivial
      | val d' =>
        obtain ⟨w,e1,r1⟩ := q
        exact ⟨w,by rw [List.getElem?_set_ne (Ne.symm hj)]; exact e1,r1.mv m⟩
      | own d' =>
        obtain ⟨b,e1,e2,c⟩ := q
        exact ⟨b,(if_neg hj).trans e1,by rw [List.getElem?_set_ne (Ne.symm hj)]; exact e2,c.mv m rfl⟩
  · rcases key e with ⟨h1,q1⟩ | ⟨h1,q1⟩
    · subst h1
      exact ⟨_,List.getElem?_set_self hi⟩
    · obtain ⟨d',e'⟩ := R.ownL j b q1
      exact ⟨d',by rw [List.getElem?_set_ne (Ne.symm h1)]; exact e'⟩
theorem dJ {i : Nat} {a : Addr} (h : H a = none) (x : Ext p p' H H') : Ext p (p'.give i a) H H' := by
  refine ⟨x.cell,x.keep,fun j b e => ?_,x.rsv,x.dom⟩
  have e : (if j = i then some a else p'.own j) = some b := e
  split at e
  · cases e
    exact .inr h
  · exact x.ownN j b e
theorem Rl.freeze (R : Rl K p σ H L cs) {i : Nat} {d : D} (e : L[i]? = some (.own d)) : Rl K (p.drop i) σ H (L.set i (.val d)) cs := by
  obtain ⟨a,e1,e2,c⟩ := R.slot i _ e
  have hi : i < L.length := (List.getElem?_eq_some_iff.mp e).1
  have nM : ¬ (p.drop i).M a := by
    rintro (q | ⟨j,q⟩ | q)
    · exact R.ok.oc i a e1 q
    · have q : (if j = i then none else p.own j) = some a := q
      split at q
      · cases q
      · exact absurd (R.ok.inj j i a q e1) (by assumption)
    · exact R.ok.ro a q i e1
  have rep : Rep K (p.drop i) H (.ref a) d := by
    have c' := c.mv (p' := p.drop i) Mv.drop rfl
    match d,c' with
    | .lst ds,⟨vs,h,r⟩ => exact .lst (.inl ⟨.inl h,nM⟩) r
    | .dct ds,⟨vs,h,r⟩ => exact .dK (.inl h) nM r
    | .dctT ds,⟨vs,h,r⟩ => exact .dT (.inl h) nM r
  refine ⟨R.ok.drop i,by rw [List.length_set]; exact R.slen,fun j s e' => ?_,fun j b e' => ?_,R.cells.mv Mv.drop rfl fun _ _ _ => rfl,R.rsv⟩
  · by_cases hj : j = i
    · subst hj
      rw [List.getElem?_set_self hi] at e'
      cases e'
      exact ⟨_,e2,rep⟩
    · rw [List.getElem?_set_ne (Ne.symm hj)] at e'
      have q := R.slot j s e'
      cases s with
      | no => trivial
      | val d' =>
        obtain ⟨w,e1,r1⟩ := q
        exact ⟨w,e1,r1.mv Mv.drop⟩
      | own d' =>
        obtain ⟨b,e1,e2,c⟩ := q
        exact ⟨b,(if_neg hj).trans e1,e2,c.mv Mv.drop rfl⟩
  · have e' : (if j = i then none else p.own j) = some b := e'
    split at e'
    · cases e'
    · rename_i hj
      obtain ⟨d',e''⟩ := R.ownL j b e'
      exact ⟨d',by rw [List.getElem?_set_ne (Ne.symm hj)]; exact e''⟩
theorem Rl.frz : ∀ (is : List Nat) {p : Pm} {L : Loc},Rl K p σ H L cs -> ∃ p',Rl K p' σ H (frz is L) cs /\ Ext p p' H H
  | [],p,L,R => ⟨p,R,.refl⟩
  | i :: r,p,L,R => by
    unfold Sp.frz
    split
    · rename_i d e
      obtain ⟨p',R',x⟩ := Rl.frz r (R.freeze e)
      exact ⟨p',R',aV.trans x⟩
    · exact Rl.frz r R
theorem eM : ∀ (is : List Nat) (L : Loc),(wipeL is L).length = L.length
  | [],_ => rfl
  | i :: r,L => by
    unfold wipeL
    rw [List.length_set,eM r L]
theorem kE : ∀ (is : List Nat) (L : Loc) (j : Nat),(wipeL is L)[j]? = if j ∈ is then L[j]?.map (fun _ => Slot.no) else L[j]?
  | [],_,_ => by simp [wipeL]
  | i :: r,L,j => by
    unfold wipeL
    by_cases h : j = i
    · subst h
      rw [if_pos (List.mem_cons_self ..)]
      by_cases hj : j < L.length
      · rw [List.getElem?_set_self (by rw [eM]; exact hj),List.getElem?_eq_getElem hj]
        rfl
      · rw [List.getElem?_eq_none (by rw [List.length_set,eM]; omega),List.getElem?_eq_none (by omega)]
        rfl
    · rw [List.getElem?_set_ne (Ne.symm h),kE r L j]
      by_cases hr : j ∈ r
      · rw [if_pos hr,if_pos (List.mem_cons_of_mem _ hr)]
      · rw [if_neg hr,if_neg (fun q => (List.mem_cons.mp q).elim h hr)]
theorem jK : ∀ {is : List Nat} {L : Loc},noOwn L is = true -> ∀ j ∈ is,∀ d,L[j]? ≠ some (.own d)
  | i :: r,L,h,j,hj,d,e => by
    unfold noOwn at h
    rw [Bool.and_eq_true] at h
    rcases List.mem_cons.mp hj with rfl | hj
    · rw [e] at h
      exact absurd h.1 (by simp)
    · exact jK h.2 j hj d e
theorem nC : ∀ {is : List Nat} {L : Loc},noOwn L is = true -> ∀ j ∈ is,j < L.length
  | i :: r,L,h,j,hj => by
    unfold noOwn at h
    rw [Bool.and_eq_true] at h
    rcases List.mem_cons.mp hj with rfl | hj
    · cases e : L[j]? with
      | none => rw [e] at h; exact absurd h.1 (by simp)
      | some s => exact (List.getElem?_eq_some_iff.mp e).1
    · exact nC h.2 j hj
theorem bU (σ : L2.St) : ∀ (is : List Nat) (j : Nat),(L2.wipe σ is)[j]? = if j ∈ is then σ[j]?.map (fun _ => none) else σ[j]?
  | [],_ => by simp [L2.wipe]
  | i :: r,j => by
    unfold L2.wipe
    by_cases h : j = i
    · subst h
      rw [if_pos (List.mem_cons_self ..)]
      by_cases hj : j < σ.length
      · rw [List.getElem?_set_self (by rw [L2.wipe_length]; exact hj),List.getElem?_eq_getElem hj]
        rfl
      · rw [List.getElem?_eq_none (by rw [List.length_set,L2.wipe_length]; omega),List.getElem?_eq_none (by omega)]
        rfl
    · rw [List.getElem?_set_ne (Ne.symm h),bU σ r j]
      by_cases hr : j ∈ r
      · rw [if_pos hr,if_pos (List.mem_cons_of_mem _ hr)]
      · rw [if_neg hr,if_neg (fun q => (List.mem_cons.mp q).elim h hr)]
theorem pCa (σ : L2.St) (is : List Nat) {i : Nat} (x : Option V) (hi : i ∈ is) : L2.wipe (σ.set i x) is = L2.wipe σ is := by
  refine List.ext_getElem? fun j => ?_
  rw [bU,bU]
  by_cases hj : j ∈ is
  · rw [if_pos hj,if_pos hj]
    by_cases e : i = j
    · subst e
      by_cases hl : i < σ.length
      · rw [List.getElem?_set_self hl,List.getElem?_eq_getElem hl]
        rfl
      · rw [List.getElem?_eq_none (by rw [List.length_set]; omega),List.getElem?_eq_none (by omega)]
    · rw [List.getElem?_set_ne e]
  · rw [if_neg hj,if_neg hj,List.getElem?_set_ne fun e => hj (by rw [<- e]; exact hi)]
theorem pDa (σ : L2.St) (is : List Nat) : L2.wipe (L2.wipe σ is) is = L2.wipe σ is := by
  refine List.ext_getElem? fun j => ?_
  rw [bU,bU]
  by_cases hj : j ∈ is
  · simp only [if_pos hj]
    cases e : σ[j]? with
    | none => rfl
    | some z => rfl
  · rw [if_neg hj]
theorem Rl.wipe (R : Rl K p σ H L cs) {is : List Nat} (h : noOwn L is = true) : Rl K p (L2.wipe σ is) H (wipeL is L) cs := by
  refine ⟨R.ok,by rw [eM,L2.wipe_length]; exact R.slen,fun j s e => ?_,fun j a e => ?_,R.cells,R.rsv⟩
  · rw [kE] at e
    by_cases hj : j ∈ is
    · rw [if_pos hj] at e
      cases q : L[j]? with
      | none => rw [q] at e; cases e
      | some z =>
        rw [q] at e
        cases e
        trivial
    · rw [if_neg hj] at e
      have q := R.slot j s e
      cases s with
      | no => trivial
      | val d' =>
        obtain ⟨w,e1,r1⟩ := q
        exact ⟨w,by rw [bU,if_neg hj]; exact e1,r1⟩
      | own d' =>
        obtain ⟨b,e1,e2,c⟩ := q
        exact ⟨b,e1,by rw [bU,if_neg hj]; exact e2,c⟩
  · obtain ⟨d,e'⟩ := R.ownL j a e
    refine ⟨d,?_⟩
    rw [kE,if_neg fun q => jK h j q d e']
    exact e'
end
def gSeq (K : PySem.W.Frag) (n : Nat) (t : TGs) : TG := fun v σ H Q => gTup K n t v σ H Q \/ gLst K n t v σ H Q
mutual
def gTg (K : PySem.W.Frag) : Tg -> TG
  | .nm i => gName i
  | .tp ts => gSeq K (tgLen ts) (gTgs K ts)
def gTgs (K : PySem.W.Frag) : Tgs -> TGs
  | .nil => gNil
  | .cons t r => gCons (gTg K t) (gTgs K r)
def tgLen : Tgs -> Nat
  | .nil => 0
  | .cons _ r => tgLen r + 1
end
mutual
def tgSlots : Tg -> List Nat
  | .nm i => [i]
  | .tp ts => tgsSlots ts
def tgsSlots : Tgs -> List Nat
  | .nil => []
  | .cons t r => tgSlots t ++ tgsSlots r
end
theorem b5a {p : Pm} {i : Nat} (h : p.own i = none) : p.drop i = p := by
  have : (fun j => if j = i then none else p.own j) = p.own := by
    funext j
    by_cases e : j = i
    · rw [if_pos e,e,h]
    · rw [if_neg e]
  show Pm.mk p.cell (fun j => if j = i then none else p.own j) p.rsv = p
  rw [this]
section
variable {K : PySem.W.Frag} {H : Hp} {cs : Cells}
def TgEnd (K : PySem.W.Frag) (H : Hp) (cs : Cells) (p : Pm) (sl : List Nat) (n : Nat) (P : Loc -> Prop) (σ1 : L2.St) (H1 : Hp) : Prop :=
  H1 = H /\ ∃ p1 L1,P L1 /\ L1.length = n /\ Rl K p1 σ1 H L1 cs /\ Ext p p1 H H /\ ((∀ i ∈ sl,p.own i = none) -> p1 = p)
mutual
theorem kK : ∀ (t : Tg) (d : D) (L : Loc) (P : Loc -> Prop),asg t d L P -> ∃ L1,P L1
  | .nm i,d,L,P,h => ⟨_,h⟩
  | .tp ts,.tup ds,L,P,h => by
    unfold asg at h
    exact iN ts ds L P h
  | .tp ts,.lst ds,L,P,h => by
    unfold asg at h
    exact iN ts ds L P h
  | .tp _,.non,_,_,h | .tp _,.bl _,_,_,h | .tp _,.int _,_,_,h | .tp _,.str _,_,_,h | .tp _,.dct _,_,_,h | .tp _,.dctT _,_,_,h | .tp _,.ref _,_,_,h => by
    unfold asg at h
    exact h.elim
theorem iN : ∀ (t : Tgs) (d : List D) (L : Loc) (P : Loc -> Prop),asgs t d L P -> ∃ L1,P L1
  | .nil,[],L,P,h => ⟨_,h⟩
  | .cons t ts,d :: ds,L,P,h => by
    unfold asgs at h
    obtain ⟨L1,h1⟩ := kK t d L _ h
    exact iN ts ds L1 P h1
  | .nil,_ :: _,_,_,h => by
    unfold asgs at h
    exact h.elim
  | .cons _ _,[],_,_,h => by
    unfold asgs at h
    exact h.elim
end
theorem iO : ∀ (t : Tgs) (ds : List D) (L : Loc) (P : Loc -> Prop),asgs t ds L P -> ds.length = tgLen t
  | .nil,[],L,P,h => by simp [tgLen]
  | .cons t ts,d :: ds,L,P,h => by
    unfold asgs at h
    obtain ⟨L1,h1⟩ := kK t d L _ h
    simp only [List.length_cons,tgLen,iO ts ds L1 P h1]
  | .nil,_ :: _,_,_,h => by
    unfold asgs at h
    exact h.elim
  | .cons _ _,[],_,_,h => by
    unfold asgs at h
    exact h.elim
mutual
theorem cI : ∀ (t : Tg) {v : V} {σ : L2.St} {H : Hp} {Q Q' : L2.St -> Hp -> Prop},(∀ σ H,Q σ H -> Q' σ H) -> gTg K t v σ H Q -> gTg K t v σ H Q'
  | .nm i,v,σ,H,Q,Q',h,x => h _ _ x
  | .tp ts,v,σ,H,Q,Q',h,.inl ⟨a,xs,e,s,l,q⟩ => .inl ⟨a,xs,e,s,l,eI ts h q⟩
  | .tp ts,v,σ,H,Q,Q',h,.inr ⟨a,xs,e,s,l,q⟩ => .inr ⟨a,xs,e,s,l,eI ts h q⟩
theorem eI : ∀ (t : Tgs) {v : List V} {σ : L2.St} {H : Hp} {Q Q' : L2.St -> Hp -> Prop},(∀ σ H,Q σ H -> Q' σ H) -> gTgs K t v σ H Q -> gTgs K t v σ H Q'
  | .nil,v,σ,H,Q,Q',h,⟨e,q⟩ => ⟨e,h _ _ q⟩
  | .cons t ts,v,σ,H,Q,Q',h,⟨a,xs,e,q⟩ => ⟨a,xs,e,cI t (fun _ _ w => eI ts h w) q⟩
end
mutual
theorem dC : ∀ (t : Tg) (p : Pm) (σ : L2.St) (L : Loc) (v : V) (d : D) (P : Loc -> Prop),Rl K p σ H L cs -> Rep K p H v d -> (∀ i ∈ tgSlots t,i < L.length) -> asg t d L P -> gTg K t v σ H (TgEnd K H cs p (tgSlots t) L.length P)
  | .nm i,p,σ,L,v,d,P,R,r,hi,h => by
    have hi : i < L.length := hi i (by simp [tgSlots])
    exact ⟨rfl,p.drop i,_,h,List.length_set ..,R.store hi r,aV,fun z => b5a (z i (by simp [tgSlots]))⟩
  | .tp ts,p,σ,L,v,.tup ds,P,R,r,hi,h => by
    unfold asg at h
    obtain ⟨a,vs,rfl,ha,rs⟩ := r.tupS
    exact .inl ⟨a,vs,rfl,ha,by rw [rs.len]; exact iO ts ds L P h,iQ ts p σ L vs ds P R rs hi h⟩
  | .tp ts,p,σ,L,v,.lst ds,P,R,r,hi,h => by
    unfold asg at h
    obtain ⟨a,vs,rfl,ha,rs⟩ := r.seen
    exact .inr ⟨a,vs,rfl,ha.sq,by rw [rs.len]; exact iO ts ds L P h,iQ ts p σ L vs ds P R rs hi h⟩
  | .tp _,_,_,_,_,.non,_,_,_,_,h | .tp _,_,_,_,_,.bl _,_,_,_,_,h | .tp _,_,_,_,_,.int _,_,_,_,_,h | .tp _,_,_,_,_,.str _,_,_,_,_,h | .tp _,_,_,_,_,.dct _,_,_,_,_,h | .tp _,_,_,_,_,.dctT _,_,_,_,_,h | .tp _,_,_,_,_,.ref _,_,_,_,_,h => by
    unfold asg at h
    exact h.elim
theorem iQ : ∀ (t : Tgs) (p : Pm) (σ : L2.St) (L : Loc) (vs : List V) (ds : List D) (P : Loc -> Prop),Rl K p σ H L cs -> Reps K p H vs ds -> (∀ i ∈ tgsSlots t,i < L.length) -> asgs t ds L P -> gTgs K t vs σ H (TgEnd K H cs p (tgsSlots t) L.length P)
  | .nil,p,σ,L,vs,[],P,R,r,hi,h => by
    cases r
    exact ⟨rfl,rfl,p,L,h,rfl,R,.refl,fun _ => rfl⟩
  | .cons t ts,p,σ,L,vs,d :: ds,P,R,r,hi,h => by
    unfold asgs at h
    cases r with
    | cons r rs =>
      refine ⟨_,_,rfl,?_⟩
      have q := dC t p σ L _ d _ R r (fun i z => hi i (by simp [tgsSlots,z])) h
      refine cI t (fun σ1 H1 w => ?_) q
      obtain ⟨e0,p1,L1,h1,hl,R1,x1,e1⟩ := w
      have e0 : H = H1 := e0.symm
      subst e0
      have q2 := iQ ts p1 σ1 L1 _ ds P R1 (rs.mv x1.mv) (fun i z => by rw [hl]; exact hi i (by simp [tgsSlots,z])) h1
      refine eI ts (fun σ2 H2 w => ?_) q2
      obtain ⟨e,p2,L2,h2,hl2,R2,x2,e2⟩ := w
      refine ⟨e,p2,L2,h2,hl2.trans hl,R2,x1.trans x2,fun z => ?_⟩
      have z1 := e1 fun i w => z i (by simp [tgsSlots,w])
      rw [e2 fun i w => by rw [z1]; exact z i (by simp [tgsSlots,w]),z1]
  | .nil,_,_,_,_,_ :: _,_,_,_,_,h => by
    unfold asgs at h
    exact h.elim
  | .cons _ _,_,_,_,_,[],_,_,_,_,h => by
    unfold asgs at h
    exact h.elim
end
end
end Sp
set_option autoImplicit true
namespace Sp
open PySem PySem.Spec PyProof.Rows L2
def othW : V -> Option V
  | .non => some .non
  | .int i => if i = 1 then some (.int 0) else if i = 0 then some (.int 1) else none
  | _ => none
def othEs (es : Array DictEntry) : Prop := ∃ t1 u1 t0 u0,es = #[⟨hashInt 1,.int 1 t1,.int 0 u1⟩,⟨hashInt 0,.int 0 t0,.int 1 u0⟩,⟨reduceHash 0xFCA86420,.none,.none⟩]
def OthK (K : PySem.W.Frag) (a : Addr) : Prop := ∃ es n,K.lookup a = some ⟨.type "dict",none,.dict es n,#[]⟩ /\ othEs es
def atV : D -> V
  | .non => .non
  | .bl b => .bl b
  | .int i => .int i
  | .str x => .str x
  | _ => .non
def isAt : D -> Bool
  | .non => true
  | .bl _ => true
  | .int _ => true
  | .str _ => true
  | _ => false
def KdEs (w : World) : List DictEntry -> List (Key × D) -> Prop
  | [],[] => True
  | e :: es,(k,d) :: r => (∃ x t,k = .inr x /\ e.key = .str x t /\ e.hash = hashStr w x) /\ isAt d = true /\ RelV (atV d) e.val /\ KdEs w es r
  | _,_ => False
def KdK (w : World) (K : PySem.W.Frag) (a : Addr) (kvs : List (Key × D)) : Prop := ∃ es n,K.lookup a = some ⟨.type "dict",none,.dict es n,#[]⟩ /\ KdEs w es.toList kvs /\ (a == sysModules) = false
def KtK (K : PySem.W.Frag) (a : Addr) (ss : List Str) : Prop := ∃ (o : Obj) (its : Array Value) (n : Nat),K.lookup a = some o /\ o.cls = .type "tuple" /\ o.data = .seq its n /\ its.size <= sizeLine /\ Vals (ss.map V.str) its.toList
section
variable {X : Cx}
theorem hWa {h : Heap} {a : Addr} (kin : X.K.In h) (o : OthK X.K a) : ∃ t1 u1 t0 u0,h.MapOf (leafKind X.prog X.w) a fun k => findBy Leaf.isOf #[⟨hashInt 1,.int 1 t1,.int 0 u1⟩,⟨hashInt 0,.int 0 t0,.int 1 u0⟩,⟨reduceHash 0xFCA86420,.none,.none⟩] k := by
  obtain ⟨es,n,hl,t1,u1,t0,u0,rfl⟩ := o
  refine ⟨t1,u1,t0,u0,_,_,n,kin _ _ hl,⟨rfl,rfl,rfl⟩,rfl,fun e he => ?_,fun k => rfl⟩
  have he : e ∈ [(⟨hashInt 1,.int 1 t1,.int 0 u1⟩ : DictEntry),⟨hashInt 0,.int 0 t0,.int 1 u0⟩,⟨reduceHash 0xFCA86420,.none,.none⟩] := by simpa using he
  simp only [List.mem_cons,List.mem_nil_iff,or_false] at he
  rcases he with rfl | rfl | rfl
  · exact ⟨.num 1,rfl,rfl⟩
  · exact ⟨.num 0,rfl,rfl⟩
  · exact ⟨.none,rfl,rfl⟩
theorem e2a : IxR X (fun x y H Q => ∃ p z,x = .ref p /\ OthK X.K p /\ othW y = some z /\ Q z H) := by
  intro value slice pins s σ H x y v u Q I rx ry h hs
  obtain ⟨p,z,rfl,o,e,q⟩ := h
  cases rx
  obtain ⟨t1,u1,t0,u0,hm⟩ := hWa I.kIn o
  have go : ∀ (k : Leaf) (r : Value),Leaf.isOf k u = true -> findBy Leaf.isOf #[⟨hashInt 1,.int 1 t1,.int 0 u1⟩,⟨hashInt 0,.int 0 t0,.int 1 u0⟩,⟨reduceHash 0xFCA86420,.none,.none⟩] k = some r -> RelV z r ->
      wpAny (model X.prog X.w) X.A (subscriptTail value slice (.ref p) u) (EP X pins σ Q) X.xe s := fun k r h1 h2 h3 =>
    tail_any hm.typeIs PySem.F.slot_dict_getitem.lookup (wpAny_getItem_of (knd := leafKind X.prog X.w) h1 hm h2 ⟨z,H,I.tok _,h3,q⟩) hs
  cases y with
  | non =>
    cases e
    cases (show u = Value.none from ry)
    exact go .none .none rfl rfl rfl
  | int i =>
    obtain ⟨t,rfl⟩ := (show ∃ t,u = Value.int i t from ry)
    have e : (if i = 1 then some (V.int 0) else if i = 0 then some (V.int 1) else none) = some z := e
    by_cases h1 : i = 1
    · subst h1
      cases e
      exact go (.num 1) (.int 0 u1) rfl rfl ⟨_,rfl⟩
    · rw [if_neg h1] at e
      by_cases h0 : i = 0
      · subst h0
        cases e
        exact go (.num 0) (.int 1 u0) rfl rfl ⟨_,rfl⟩
      · rw [if_neg h0] at e
        cases e
  | _ => cases e
theorem mS {P : Program} {w : World} {h : Heap} {a : Addr} {f : Key -> Option Value} (m : h.MapOf (mixKind P w) a f) : ∃ g,h.MapOf (leafKind P w) a g /\ g .none = none := by
  obtain ⟨o,es,ep,ho,x,d,ks,_⟩ := m
  refine ⟨fun k => findBy Leaf.isOf es k,⟨o,es,ep,ho,x,d,fun e he => ?_,fun _ => rfl⟩,?_⟩
  · obtain ⟨k,h1,h2⟩ := ks e he
    rcases keyIs_shape h1 with ⟨i,t,rfl,e1⟩ | ⟨z,t,rfl,e1⟩
    · exact ⟨.num i,by rw [e1]; exact decide_eq_true rfl,h2⟩
    · refine ⟨.text z,?_,h2⟩
      rw [e1] at h1 ⊢
      exact h1
  · show (es.find? fun e => Leaf.isOf .none e.key).map _ = none
    rw [Option.map_eq_none_iff,Array.find?_eq_none]
    intro e he q
    obtain ⟨k,h1,_⟩ := ks e he
    rcases keyIs_shape h1 with ⟨i,t,_,e1⟩ | ⟨z,t,_,e1⟩ <;> rw [e1] at q <;> cases q
def tGet1 (td ty : TE) : TE := fun σ H Q => td σ H fun x H1 => ∃ a,x = .ref a /\ IsD H1 a /\ ty σ H1 fun y H2 => ∃ o,(DGet H2 a y o \/ (y = .non /\ o = none /\ ∃ kvs,Rd H2 a (.dK kvs))) /\ Q (o.getD .non) H2
theorem hZa {o e : Expr} {td ty : TE} {apos cpos : Pos} (hu : X.A.units + 1 < cLine) (ho : PE X o td) (he : PE X e ty) (m : M1 X o "get" apos e cpos) : PE X (.Call (.Attribute o "get" apos) [e] [] cpos) (tGet1 td ty) :=
  ⟨fun pins s σ H Q I h => wpAny_Call_method m.base m.few m.line PySem.F.plainAttrs_dict PySem.F.slot_dict_get PySem.F.type_dict_get (thn (ho.run pins s σ H _ I h) fun u s1 ⟨x,H1,I1,rx,a,ex,d,q1⟩ => by
    subst ex
    obtain rfl : u = Value.ref a := rx
    obtain ⟨t1,t2,_⟩ := isD_at I1 d
    refine ⟨t1,t2,?_⟩
    rw [m.trees]
    refine Calls.callWith_builtin rfl (Calls.evalArgs_plain (Calls.spliced_cons (thn (he.run pins s1 σ H1 _ I1 q1) fun iv s2 ⟨y,H2,I2,ry,ov,g,q2⟩ => Calls.spliced_nil ?_)))
    rcases g with g | ⟨rfl,rfl,kvs,g⟩
    · exact d_get1 hu I2 g ry fun w' s3 I3 rw' => ⟨_,H2,I3,rw',q2⟩
    · cases (show iv = Value.none from ry)
      obtain ⟨z,hd,vs,rel,dd⟩ := dk_rd I2.hok g
      obtain ⟨f,mf,fn⟩ := mS dd.mapOf
      refine call_meetsIn PySem.F.slot_dict_get mf.typeIs PySem.F.entry_dict_get (PySem.F.args_dict_get_2 _ _) (meets_dict_get (leafKind X.prog X.w) a (k := .none) rfl hd) ⟨f,mf,?_⟩
      rw [fn]
      exact ⟨.non,H2,I2.tok _,rfl,q2⟩)⟩
theorem ints_vals : ∀ {ns : List Int} {us : List Value},Vals (ns.map V.int) us -> IntsAre us ns
  | [],_,.nil => .nil
  | n :: r,_,.cons h t => by
    obtain ⟨u,rfl⟩ := h
    exact .cons n u (ints_vals t)
theorem eQa {pins : List (Addr × Obj)} {σ : L2.St} {H : Hp} {s : Shared} {p : Addr} {o : Obj} {vs : List V} (I : Inv X pins σ H s) (h : H p = some (.frz o (.tup vs))) (hd : o.dict = none) :
    s.TypeIs (.ref p) "tuple" /\ ∀ a,Value.ref p = .ref a -> ∃ ob,s.heap.get? a = some ob /\ ob.dict = none := by
  obtain ⟨e,z,its,rv,o',e',c1,n,c2⟩ := (show ObjOk X.prog X.w H s.heap p (.frz o (.tup vs)) from I.hok _ _ h)
  rw [e] at e'
  cases e'
  exact ⟨⟨o,e,c1⟩,fun a ea => by cases ea; exact ⟨o,e,hd⟩⟩
theorem fYa : MtR X "tuple.index" (fun x xs H Q => ∃ (p : Addr) (ns : List Int) (k : Int),x = .ref p /\ xs = [.int k] /\ SqT X.K H p (ns.map V.int) /\ k ∈ ns /\ Q (.int (ns.idxOf k : Nat)) H) := by
  intro pins s σ H x xs v us Q I rx rs h
  obtain ⟨p,ns,k,rfl,rfl,hq,hk,q⟩ := h
  cases rx
  obtain ⟨u,rfl,t,rfl⟩ := vals1 rs
  obtain ⟨its,r,pl,hz⟩ := I.tuple hq
  exact PySem.SeqAt.tuple_index_ints pl (ints_vals r) hk ⟨.int (ns.idxOf k : Nat),H,I.tok _,⟨_,rfl⟩,q⟩
theorem f0a (hu : X.A.units + 64 < cLine) : MtR X "tuple.index" (fun x xs H Q => ∃ (p : Addr) (vs : List V) (y : V) (ps : List PyData) (q : PyData),x = .ref p /\ xs = [y] /\ SqT X.K H p vs /\ DpAll X.K H vs ps /\ Dp X.K H y q /\ PyData.plainAll ps = true /\ q.plain = true /\ min (PyData.depthAll ps) q.depth <= 60 /\ (true ∈ ps.map fun z => PyData.eqv z q) /\ Q (.int ((ps.map fun z => PyData.eqv z q).idxOf true : Nat)) H) := by
  intro pins s σ H x xs v us Q I rx rs h
  obtain ⟨p,vs,y,ps,q,rfl,rfl,hq,dps,dq,pp,pq,hd,hm,k⟩ := h
  cases rx
  obtain ⟨u,rfl,t⟩ := vals1 rs
  obtain ⟨its,r,pl,hz⟩ := I.tuple hq
  obtain ⟨as,ra⟩ := Dp.readsAll I ps vs its dps r
  obtain ⟨bs,rb⟩ := Dp.reads I q y u dq t
  have hl : its.length = ps.length := by
    have := congrArg List.length (SeqAt.readsAll_map_plain ps its as pp ra)
    rwa [List.length_map] at this
  have it := SeqAt.items_plain (A := X.A) (vs := its.toArray) (xs := ps) (by rw [List.toList_toArray]; exact ra) rb pp pq (by omega)
  refine SeqAt.call_tuple_index (ks := ps.map fun z => PyData.eqv z q) (k := true) pl ⟨by rw [List.length_map]; exact hl,fun j h1 h2 => ?_⟩ hm ⟨.int _,H,I.tok _,⟨_,rfl⟩,k⟩
  have e : (ps.map fun z => PyData.eqv z q)[j] = PyData.eqv (SeqAt.readOf s.heap its[j]) q := by
    have e1 := SeqAt.readsAll_map_plain ps its as pp ra
    rw [List.getElem_map]
    have : ps[j]'(by rw [<- hl]; exact h1) = SeqAt.readOf s.heap its[j] := by
      have := List.getElem_of_eq e1.symm (i := j) (by rw [<- hl]; exact h1)
      rw [this,List.getElem_map]
    rw [this]
  rw [e]
  have := it its[j] (by simp)
  revert this
  generalize PyData.eqv (SeqAt.readOf s.heap its[j]) q = b
  cases b <;> exact id
theorem fZa (hu : X.A.units + 64 < cLine) : MtR X "tuple.index" (fun x xs H Q => (∃ (p : Addr) (ns : List Int) (k : Int),x = .ref p /\ xs = [.int k] /\ SqT X.K H p (ns.map V.int) /\ k ∈ ns /\ Q (.int (ns.idxOf k : Nat)) H) \/
    ∃ (p : Addr) (vs : List V) (y : V) (ps : List PyData) (q : PyData),x = .ref p /\ xs = [y] /\ SqT X.K H p vs /\ DpAll X.K H vs ps /\ Dp X.K H y q /\ PyData.plainAll ps = true /\ q.plain = true /\ min (PyData.depthAll ps) q.depth <= 60 /\ (true ∈ ps.map fun z => PyData.eqv z q) /\ Q (.int ((ps.map fun z => PyData.eqv z q).idxOf true : Nat)) H) := by
  intro pins s σ H x xs v us Q I rx rs h
  rcases h with h | h
  · exact fYa pins s σ H x xs v us Q I rx rs h
  · exact f0a hu pins s σ H x xs v us Q I rx rs h
def tTM (r : V -> List V -> Hp -> VK -> Prop) (to : TE) (t : TA) : TE := fun σ H Q => to σ H fun x H1 => (∃ p o vs,x = .ref p /\ H1 p = some (.frz o (.tup vs)) /\ o.dict = none) /\ t σ H1 fun xs H2 => r x xs H2 Q
theorem h8a {o e : Expr} {name : Str} {id : String} {apos cpos : Pos} {r : V -> List V -> Hp -> VK -> Prop} {to : TE} {t : TA} (pa : PlainAttrs "tuple") (slot : PySem.Slot "tuple" name id) (hty : typeOf (.builtin id) = pure (.type "method_descriptor")) (hm : MtR X id r) (ho : PE X o to) (ha : PA X [e] t)
    (hbase : attributeBase o name X.env (eval o X.env) = eval o X.env) (hfew : ((backTo cpos (starEach [e] X.env)).all (fun x => !x.1) && (backToKw cpos (keywordEach [] X.env)).all (fun x => x.1.isSome) && decide (([e] : List Expr).length + ([] : List Keyword).length + (if ([] : List Keyword).isEmpty then 0 else 1) < 30)) = true)
    (hline : (apos.endLine == cpos.line) = true) (hs : starEach [e] X.env = [(false,eval e X.env)]) : PE X (.Call (.Attribute o name apos) [e] [] cpos) (tTM r to t) :=
  ⟨fun pins s σ H Q I h => wpAny_Call_method_late hbase hfew hline rfl (thn (ho.run pins s σ H _ I h) fun v s1 ⟨x,H1,I1,r1,⟨p,ob,vs,ex,hf,hd⟩,q1⟩ => by
    subst ex
    obtain rfl : v = Value.ref p := r1
    obtain ⟨h1,h2⟩ := eQa I1 hf hd
    refine ⟨"tuple",id,pa,slot,hty,h1,h2,?_⟩
    have hA := ha.run cpos pins s1 σ H1 _ I1 q1
    rw [hs] at hA ⊢
    exact Calls.callWith_builtin rfl (Calls.evalArgs_plain (thn hA fun us s2 ⟨ws,H2,I2,r2,q2⟩ => hm pins s2 σ H2 (.ref p) ws (.ref p) us Q I2 rfl r2 q2)))⟩
def tPTup (t : TA) : TE := fun σ H Q => t σ H fun xs H1 => xs.length <= sizeLine /\ ∀ p o,o.dict = none -> H1 p = none -> Q (.ref p) (upd H1 p (.frz o (.tup xs)))
theorem h6a {es : List Expr} {x1 : Nat} {t : TA} {pos : Pos} (h : PA X es t) : PE X (.Tuple es x1 pos) (tPTup t) :=
  ⟨fun pins s σ H Q I hq => wpAny_Tuple_spliced (thn (h.run pos pins s σ H _ I hq) fun us s1 ⟨xs,H1,I1,r,z,q⟩ => ⟨by rw [<- r.length]; exact z,by
    have hf : H1 s1.heap.objs.size = none := I1.hok.fresh (Nat.le_refl _)
    exact ⟨.ref s1.heap.objs.size,_,I1.laid (t' := s1.toks) (o := .frz { cls := .type "tuple",data := .seq us.toArray } (.tup xs)) (fun b u e => Heap.get?_push_of_some _ e) (Nat.le_refl _)
      ⟨Heap.get?_push_size _ rfl,z,us,r,⟨_,Heap.get?_push_size _ rfl,rfl,_,rfl⟩⟩,rfl,q _ _ rfl hf⟩⟩)⟩
theorem bAa : CallR X (.type "tuple") (fun xs H Q => ∃ a ys,xs = [.ref a] /\ SqL X.K H a ys /\ ∀ p o,o.dict = none -> H p = none -> Q (.ref p) (upd H p (.frz o (.tup ys)))) := by
  intro pins s σ H xs us Q I r ⟨a,ys,e,hq,q⟩
  subst e
  obtain ⟨u,rfl,rx⟩ := vals1 r
  cases rx
  obtain ⟨its,r',pl,hz⟩ := I.list hq
  have hlen := r'.length
  refine call_tuple_list pl.isList (fun h' kp => ?_) (by rw [List.size_toArray]; omega)
  have I1 : Inv X pins σ H { s with heap := h' } := I.kept (t' := s.toks) kp
  exact ⟨.ref h'.objs.size,_,I1.laid (t' := s.toks) (o := .frz { cls := .type "tuple",data := .seq its.toArray } (.tup ys)) (fun b o e => Heap.get?_push_of_some _ e) (Nat.le_refl _)
    (show ObjOk X.prog X.w _ _ _ (.frz _ (.tup ys)) from ⟨Heap.get?_push_size _ rfl,hz,its,r',IsTup.new _ _⟩),rfl,q _ _ rfl (I1.hok.fresh (Nat.le_refl _))⟩
end
end Sp
set_option autoImplicit true
namespace Sp
open PySem PySem.Spec PyProof.Rows L2
section
variable {prog : Program} {w : World} {A : Around} {E : Value -> Shared -> Prop} {s : Shared} {l : Addr} {its : List Value} {ns : List Int} {Q : Value -> Shared -> Prop}
theorem depth_ints : ∀ ns : List Int,PyData.depthAll (ns.map PyData.int) <= 1
  | [] => by simp [PyData.depthAll]
  | n :: r => by
    have := depth_ints r
    simp [PyData.depthAll,PyData.depth] at this ⊢
    try omega
theorem alike_ints (ns : List Int) : PySem.W.AlikeAll (ns.map PyData.int) := by
  constructor
  · intro x hx y hy
    obtain ⟨a,_,rfl⟩ := List.mem_map.mp hx
    obtain ⟨b,_,rfl⟩ := List.mem_map.mp hy
    rfl
  · intro x hx
    obtain ⟨a,_,rfl⟩ := List.mem_map.mp hx
    exact fun h => nomatch h
theorem fSa (hh : A.handled = none) (hu : A.units + 64 < cLine) (hl : s.heap.IsList l its.toArray) (hi : IntsAre its ns) {v0 : Value} (h0 : ∃ t,v0 = .int 0 t)
    (h : ∀ h' tk t',(∀ b o,s.heap.get? b = some o -> h'.get? b = some o) -> Q (.int (ns.max?.getD 0) t') { s with heap := h',toks := tk }) : wpAny (model prog w) A (call (.builtin "max") [.ref l] [(Str.ofString "default",v0)]) Q E s := by
  obtain ⟨t0,rfl⟩ := h0
  have hd := depth_ints ns
  refine PySem.W.max_list_default hh hl (PyProof.Rows.ints_readAll _ hi) (alike_ints ns) (by omega) (fun e h' tk hk => ?_) fun y ys i v h' tk bs e hv r hk => ?_
  · have : ns = [] := List.map_eq_nil_iff.mp e
    subst this
    exact h h' tk t0 hk
  · cases ns with
    | nil => cases e
    | cons n r' =>
      obtain ⟨rfl,rfl⟩ := List.cons.inj e
      rw [PySem.W.maxD_ints] at r
      cases r
      exact h h' tk _ hk
end
def rMaxD (K : PySem.W.Frag) : List V -> List V -> Hp -> VK -> Prop := fun vs zs H Q => ∃ (a : Addr) (ns : List Int),vs = [V.ref a] /\ zs = [V.int 0] /\ SqL K H a (ns.map V.int) /\ Q (.int (ns.max?.getD 0)) H
theorem cr_maxD {X : Cx} (hc : X.calm = true) (hu : X.A.units + 64 < cLine) : CallRK X (.builtin "max") [Str.ofString "default"] (rMaxD X.K) := by
  intro pins s σ H vs zs us ws Q I r rz h
  obtain ⟨a,ns,rfl,rfl,hs,q⟩ := h
  obtain ⟨its,rv,hl,_⟩ := I.list hs
  rw [Vals.ref1 r]
  obtain ⟨w1,rfl,e1⟩ := vals1 rz
  exact fSa (I.ok.hd hc) hu hl.isList rv.ints e1 fun h' tk t' hk => ⟨.int _,H,I.kept hk,⟨_,rfl⟩,q⟩
end Sp
set_option autoImplicit true
namespace Sp
open PySem PySem.Spec PyProof.Rows L2
end Sp
namespace L2
open PySem PySem.Spec PyProof.Rows
section
variable {X : Cx}
theorem PE.imp {e : Expr} {t t' : TE} (h : PE X e t) (w : ∀ σ H Q,t' σ H Q -> t σ H Q) : PE X e t' := ⟨fun pins s σ H Q I q => h.run pins s σ H Q I (w σ H Q q)⟩
theorem PT.imp {e : Expr} {t t' : TT} (h : PT X e t) (w : ∀ σ H Q,t' σ H Q -> t σ H Q) : PT X e t' := ⟨fun pins s σ H Q I q => h.run pins s σ H Q I (w σ H Q q)⟩
theorem PW.imp {e : Expr} {t t' : TT} (h : PW X e t) (w : ∀ σ H Q,t' σ H Q -> t σ H Q) : PW X e t' := ⟨fun wh pins s σ H Q I q => h.run wh pins s σ H Q I (w σ H Q q)⟩
theorem PA.imp {e : List Expr} {t t' : TA} (h : PA X e t) (w : ∀ σ H Q,t' σ H Q -> t σ H Q) : PA X e t' := ⟨fun pos pins s σ H Q I q => h.run pos pins s σ H Q I (w σ H Q q)⟩
theorem PS.imp {e : Stmt} {t t' : TS} (h : PS X e t) (w : ∀ D σ H,t' D σ H -> t D σ H) : PS X e t' := ⟨fun pins s σ H D I q => h.run pins s σ H D I (w D σ H q)⟩
theorem PSs.imp {e : List Stmt} {t t' : TS} (h : PSs X e t) (w : ∀ D σ H,t' D σ H -> t D σ H) : PSs X e t' := ⟨fun pins s σ H D I q => h.run pins s σ H D I (w D σ H q)⟩
theorem PI.imp {tg e : Expr} {t t' : TI} (h : PI X tg e t) (w : ∀ σ H Q,t' σ H Q -> t σ H Q) : PI X tg e t' := ⟨fun pins s σ H Q I q => h.run pins s σ H Q I (w σ H Q q)⟩
theorem PO.imp {e : Option Expr} {t t' : TO} (h : PO X e t) (w : ∀ σ H Q,t' σ H Q -> t σ H Q) : PO X e t' := ⟨fun pins s σ H Q I q => h.run pins s σ H Q I (w σ H Q q)⟩
end
end L2
namespace Sp
open PySem PySem.Spec PyProof.Rows L2
abbrev Sp0 := List V -> Hp -> VK -> Prop
structure FnG (P : Program) (w : World) (K : PySem.W.Frag) (mg : Str -> Option Value) (base : Heap) (k : Nat) (f : Addr) (fd : FuncData) (ps : List Str) (sp : Sp0) : Prop where
  run : ∀ (A : Around) (outer : List Env) (s : Shared) (H : Hp) (args : Args) (us : List Value) (vs : List V) (Q : VK),Room k A -> A.guards = some [] -> Env0 P w K mg base A outer s H -> BindsTo s fd args (ps.zip us) -> Vals vs us -> vs.length = ps.length -> sp vs H Q ->
    codeAny (model P w) A (.call (.ref f) args) (CR CX0 outer P w H s Q E0) s
def Pm.in (p : Pm) : Pm := ⟨p.cell,fun _ => none,fun a => p.rsv a \/ ∃ i,p.own i = some a⟩
def spG (K : PySem.W.Frag) (G : SF) (f : Str) : Sp0 := fun vs H Q => ∃ p ds cs,p.own = (fun _ => none) /\ p.Ok /\ CsOk K p H cs /\ (∀ a,p.rsv a -> Bx (H a)) /\ Reps K p H vs ds /\
  G f ds cs fun d cs' => ∀ v p' H',p'.own = (fun _ => none) -> p'.Ok -> CsOk K p' H' cs' -> Ext p p' H H' -> Rep K p' H' v d -> Q v H'
section
variable {K : PySem.W.Frag} {p p' : Pm} {σ : L2.St} {H H' : Hp} {L : Loc} {cs cs' : Cells}
theorem in_M {a : Addr} : p.in.M a ↔ p.M a := by
  constructor
  · rintro (q | ⟨i,q⟩ | q | q)
    · exact .inl q
    · cases q
    · exact .inr (.inr q)
    · exact .inr (.inl q)
  · rintro (q | q | q)
    · exact .inl q
    · exact .inr (.inr (.inr q))
    · exact .inr (.inr (.inl q))
theorem Mv.in : Mv p p.in H H := ⟨fun _ _ e n => ⟨e,fun q => n (in_M.mp q)⟩,fun _ _ e => e⟩
theorem Rl.in (R : Rl K p σ H L cs) : p.in.Ok /\ CsOk K p.in H cs /\ ∀ a,p.in.rsv a -> Bx (H a) := by
  refine ⟨⟨R.ok.nd,(fun _ _ _ e _ => (nomatch e)),(fun _ _ e => (nomatch e)),?_,(fun _ _ _ e => (nomatch e))⟩,R.cells.mv Mv.in rfl fun _ _ _ => rfl,?_⟩
  · rintro a (q | ⟨i,q⟩)
    · exact R.ok.rc a q
    · exact R.ok.oc i a q
  · rintro a (q | ⟨i,q⟩)
    · exact R.rsv a q
    · exact R.bx (.inr (.inl ⟨i,q⟩))
theorem Rl.out (R : Rl K p σ H L cs) (ho : p'.own = fun _ => none) (ok : p'.Ok) (C : CsOk K p' H' cs') (x : Ext p.in p' H H') :
    Rl K ⟨p'.cell,p.own,p.rsv⟩ σ H' L cs' /\ ExtE p ⟨p'.cell,p.own,p.rsv⟩ H H' /\ Mv p' ⟨p'.cell,p.own,p.rsv⟩ H' H' := by
  obtain ⟨more,ec,hn⟩ := x.cell
  have ec : p'.cell = p.cell ++ more := ec
  have keep : ∀ b o,H b = some o -> b ∉ p.cell -> H' b = some o := fun b o e hb => x.keep b o e hb fun i z => (nomatch z)
  have ex : ExtE p ⟨p'.cell,p.own,p.rsv⟩ H H' := by
    refine ⟨⟨⟨more,ec,hn⟩,fun b o e hb _ => keep b o e hb,fun i a e => .inl ⟨i,e⟩,rfl,x.dom⟩,rfl,fun i b e => ?_⟩
    have hs := R.ownSome e
    cases q : H b with
    | none => exact absurd q hs
    | some o => exact keep b o q (R.ok.oc i b e)
  have m : Mv p' ⟨p'.cell,p.own,p.rsv⟩ H' H' := by
    refine ⟨fun a u e n => ⟨e,?_⟩,fun _ _ e => e⟩
    rintro (q | q | q)
    · exact n (.inl q)
    · exact n (.inr (.inr (by rw [x.rsv]; exact .inr q)))
    · exact n (.inr (.inr (by rw [x.rsv]; exact .inl q)))
  have ok2 : (Pm.mk p'.cell p.own p.rsv).Ok := by
    refine ⟨ok.nd,R.ok.inj,fun i a e hm => ?_,fun a h hm => ?_,R.ok.ro⟩
    · have hm : a ∈ p'.cell := hm
      rw [ec] at hm
      rcases List.mem_append.mp hm with q | q
      · exact R.ok.oc i a e q
      · exact R.ownSome e (hn a q)
    · have hm : a ∈ p'.cell := hm
      rw [ec] at hm
      rcases List.mem_append.mp hm with q | q
      · exact R.ok.rc a h q
      · exact (R.rsv a h).1 (hn a q)
  have C2 : CsOk K ⟨p'.cell,p.own,p.rsv⟩ H' cs' := C.mv m rfl fun _ _ _ => rfl
  exact ⟨R.move ex ok2 C2,ex,m⟩
end
section
variable {X : Cx} {k : Nat} {f : Addr} {fd : FuncData} {ps : List Str} {sp : Sp0}
theorem eE {pins : List (Addr × Obj)} {σ : L2.St} {H : Hp} {s : Shared} {Q : VK} {us : List Value} {vs : List V} (F : FnG X.prog X.w X.K X.mg X.base k f fd ps sp) (hr : Room k X.A) (hg : X.A.guards = some []) (hb : Binds X.K fd ps []) (hl : vs.length = ps.length)
    (I : Inv X pins σ H s) (r : Vals vs us) (h : sp vs H Q) : wpAny (model X.prog X.w) X.A (PySem.call (.ref f) us) (EP X pins σ Q) X.xe s := by
  have hlu : (us ++ []).length = ps.length := by rw [List.append_nil,<- r.length]; exact hl
  have bd := hb s us I.kIn hlu
  rw [List.append_nil] at bd
  refine wpAny_call (codeAny_mono (F.run X.A X.stack s H ⟨us,[]⟩ us vs Q hr hg I.env0 bd r hl h) fun r s' hq => ?_)
  cases r with
  | error e => exact False.elim hq
  | ok fl =>
    cases fl with
    | ret u => exact I.after hq
    | next => exact False.elim hq
    | brk => exact False.elim hq
    | cont => exact False.elim hq
end
structure Tb where
  fns : List (Str × Nat)
  blt : List Str
  con : List Str
  cls : List (Str × (Str × Nat)) := []
  mth : List ((Str × Str) × (Str × Nat)) := []
  fds : List (Str × Str) := []
  oth : List Str := []
  kds : List Str := []
  kts : List Str := []
structure Gd (X : Cx) (N : List Str) (T : Tb) (G : SF) (con : Str -> Option D) : Prop where
  hN : X.N = N
  nd : N.Nodup
  calm : X.calm = true
  gu : X.A.guards = some []
  un : X.A.units + 100 < cLine
  mono : SFm G
  kds : ∀ x,T.kds.contains x = true -> ∃ a kvs,X.mg x = some (.ref a) /\ con x = some (.dct kvs) /\ KdK X.w X.K a kvs
  kts : ∀ x,T.kts.contains x = true -> ∃ a ss,X.mg x = some (.ref a) /\ con x = some (D.tup (ss.map D.str)) /\ KtK X.K a ss
  fns : ∀ f n,T.fns.lookup f = some n -> ∃ k a fd ps,Room k X.A /\ X.mg f = some (.ref a) /\ PySem.W.keepIn X.K (.ref a) = true /\ Binds X.K fd ps [] /\ ps.length = n /\ FnG X.prog X.w X.K X.mg X.base k a fd ps (spG X.K G f)
  blt : ∀ x,T.blt.contains x = true -> X.mg x = none
  con : ∀ x,T.con.contains x = true -> ∃ d v u,con x = some d /\ X.mg x = some u /\ RelV v u /\ ∀ p H,Rep X.K p H v d
  cls : ∀ c q n,T.cls.lookup c = some (q,n) -> ∃ C k a fd ps,CAt X.K c C /\ X.mg c = some (.ref C) /\ Room (k + 1) X.A /\ Mk X.K C a /\ Binds X.K fd ps [] /\ ps.length = n + 1 /\ FnG X.prog X.w X.K X.mg X.base k a fd ps (spG X.K G q)
  mth : ∀ c m q n,T.mth.lookup (c,m) = some (q,n) -> ∃ C k a fd ps,CAt X.K c C /\ Meth X.K C m a /\ Room k X.A /\ Binds X.K fd ps [] /\ ps.length = n + 1 /\ FnG X.prog X.w X.K X.mg X.base k a fd ps (spG X.K G q)
  fds : ∀ c f,T.fds.contains (c,f) = true -> ∃ C,CAt X.K c C /\ NoAttr X.K C f
  oth : ∀ x,T.oth.contains x = true -> ∃ a,X.mg x = some (.ref a) /\ OthK X.K a
theorem Gd.blk {X : Cx} {N : List Str} {T : Tb} {G : SF} {con : Str -> Option D} (g : Gd X N T G con) (s : Shared) (H : Hp) (scope : Scope) (cenv : Env) (fp : List Addr) : Gd (X.blk s H scope cenv fp) N T G con :=
  ⟨g.hN,g.nd,g.calm,g.gu,g.un,g.mono,g.kds,g.kts,g.fns,g.blt,g.con,g.cls,g.mth,g.fds,g.oth⟩
end Sp
set_option autoImplicit true
namespace Sp
open PySem PySem.Spec PyProof.Rows L2
section
variable {K : PySem.W.Frag} {p p' : Pm} {σ : L2.St} {H H' : Hp} {L : Loc} {cs : Cells} {v : V}
def Later (K : PySem.W.Frag) (b : Bool) (p : Pm) (H : Hp) (L : Loc) (st : Loc -> Cells -> Prop) (k : Sk) (ds : List D) : Prop :=
  ∀ p' σ' H' L' cs',Rl K p' σ' H' L' cs' -> Mv p p' H H' -> (b = true -> L' = L /\ p'.own = p.own) -> st L' cs' -> ∃ vs,k.seen K H' vs /\ Reps K p' H' vs ds
def Walk (K : PySem.W.Frag) (b : Bool) (J : It) (p : Pm) (H : Hp) (L : Loc) (st : Loc -> Cells -> Prop) (xs : List D) : Prop :=
  ∀ i p' σ' H' L' cs',Rl K p' σ' H' L' cs' -> Mv p p' H H' -> (b = true -> L' = L /\ p'.own = p.own) -> st L' cs' ->
    (i = xs.length -> J.stop i H') /\ ∀ x,xs[i]? = some x -> J.go i H' /\ ∀ v H'',J.yld i H' v H'' -> Rl K p' σ' H'' L' cs' /\ ExtE p' p' H' H'' /\ Rep K p' H'' v x
def IsSrc (v : V) : Sk -> Prop
  | .lst a => v = .ref a
  | .tup a => v = .ref a
  | .str _ _ => False
theorem Later.st {b : Bool} {st st' : Loc -> Cells -> Prop} {k : Sk} {ds : List D} (h : Later K b p H L st k ds) (w : ∀ L c,st' L c -> st L c) : Later K b p H L st' k ds :=
  fun p' σ' H' L' cs' R m ho hs => h p' σ' H' L' cs' R m ho (w _ _ hs)
theorem bT {c : CE} {u : Opd} {ds : List D} {q : List D -> Prop} (R : Rl K p σ H L cs) (r : RepO K p H L v u) (hb : ∀ i d,u = .o i d -> c.peeks.isSome = true) (h : itemsK (view cs u) q) :
    ∃ k ds,IsSrc v k /\ Later K c.peeks.isSome p H L (stays u cs) k ds /\ q ds := by
  match u,r with
  | .v (.tup xs),r =>
    have r : Rep K p H v (.tup xs) := r
    have q' : q xs := by rw [<- aH (k := q)]; exact h
    obtain ⟨a,vs,e,hs,rs⟩ := r.tupS
    refine ⟨.tup a,xs,e,fun p' σ' H' L' cs' R' m _ _ => ?_,q'⟩
    obtain ⟨a',vs',e',hs',rs'⟩ := (r.mv m).tupS
    rw [e] at e'
    cases e'
    exact ⟨vs',hs',rs'⟩
  | .v (.ptup xs),r =>
    have r : Rep K p H v (.ptup xs) := r
    have q' : q xs := by rw [<- aH (k := q)]; exact h
    obtain ⟨a,vs,e,hs,_,rs⟩ := r.ptupS
    refine ⟨.tup a,xs,e,fun p' σ' H' L' cs' R' m _ _ => ?_,q'⟩
    obtain ⟨a',vs',e',hs',_,rs'⟩ := (r.mv m).ptupS
    rw [e] at e'
    cases e'
    exact ⟨vs',hs',rs'⟩
  | .v (.vtup xs),r =>
    have r : Rep K p H v (.vtup xs) := r
    have q' : q xs := by rw [<- aH (k := q)]; exact h
    obtain ⟨a,vs,e,hs,_,rs⟩ := r.vtupS
    refine ⟨.tup a,xs,e,fun p' σ' H' L' cs' R' m _ _ => ?_,q'⟩
    obtain ⟨a',vs',e',hs',_,rs'⟩ := (r.mv m).vtupS
    rw [e] at e'
    cases e'
    exact ⟨vs',hs',rs'⟩
  | .v (.lst xs),r =>
    have r : Rep K p H v (.lst xs) := r
    have q' : q xs := by rw [<- aH (k := q)]; exact h
    obtain ⟨a,vs,e,hs,rs⟩ := r.seen
    refine ⟨.lst a,xs,e,fun p' σ' H' L' cs' R' m _ _ => ?_,q'⟩
    obtain ⟨a',vs',e',hs',rs'⟩ := (r.mv m).seen
    rw [e] at e'
    cases e'
    exact ⟨vs',hs'.sq,rs'⟩
  | .v (.ref n),r =>
    cases r with
    | ref hn =>
      rename_i a
      have h : itemsK (match cs[n]? with
        | some (.seq xs) => .lst xs
        | some (.map kvs) => .dct kvs
        | some (.mapT kvs) => .dctT kvs
        | _ => .ref n) q := h
      cases e : cs[n]? with
      | none => rw [e] at h; exact (show False from h).elim
      | some c1 =>
        rw [e] at h
        cases c1 with
        | seq xs =>
          have q' : q xs := by rw [<- aH (k := q)]; exact h
          refine ⟨.lst a,xs,rfl,fun p' σ' H' L' cs' R' m _ hs => ?_,q'⟩
          have hs : cs'[n]? = cs[n]? := hs
          obtain ⟨vs,h1,h2⟩ := R'.cells.at_ n (.seq xs) a (hs.trans e) (m.cl n a hn)
          exact ⟨vs,.inl (.inl h1),h2⟩
        | map kvs => exact (show False from h).elim
        | mapT kvs => exact (show False from h).elim
        | inst _ _ => exact (show False from h).elim
  | .o j (.lst xs),r =>
    have q' : q xs := by rw [<- aH (k := q)]; exact h
    obtain ⟨a,e,ho,hl⟩ := r
    refine ⟨.lst a,xs,e,fun p' σ' H' L' cs' R' m hw _ => ?_,q'⟩
    obtain ⟨eL,eo⟩ := hw (hb j _ rfl)
    obtain ⟨a',e1,e2,vs,h1,h2⟩ := R'.slot j _ (by rw [eL]; exact hl)
    rw [eo,ho] at e1
    cases e1
    exact ⟨vs,.inl (.inl h1),h2⟩
  | .o j (.tup xs),r =>
    obtain ⟨a,e,ho,hl⟩ := r
    obtain ⟨a',e1,e2,hc⟩ := R.slot j _ hl
    exact (show False from hc).elim
  | .o j (.ptup xs),r =>
    obtain ⟨a,e,ho,hl⟩ := r
    obtain ⟨a',e1,e2,hc⟩ := R.slot j _ hl
    exact (show False from hc).elim
  | .o j (.vtup xs),r =>
    obtain ⟨a,e,ho,hl⟩ := r
    obtain ⟨a',e1,e2,hc⟩ := R.slot j _ hl
    exact (show False from hc).elim
  | .o _ .non,_ | .o _ (.bl _),_ | .o _ (.int _),_ | .o _ (.str _),_ | .o _ (.dct _),_ | .o _ (.dctT _),_ | .o _ (.ref _),_ => exact (show False from h).elim
  | .v .non,_ | .v (.bl _),_ | .v (.int _),_ | .v (.str _),_ | .v (.dct _),_ | .v (.dctT _),_ => exact (show False from h).elim
end
def RI (K : PySem.W.Frag) (b : Bool) (f : SI) : TI := fun σ H R => ∃ p L cs,Rl K p σ H L cs /\ f L cs fun xs st cs1 => ∀ J p1 H1,Rl K p1 σ H1 L cs1 -> ExtE p p1 H H1 -> Walk K b J p1 H1 L st xs -> R J H1
def starred : Expr -> Bool
  | .Starred _ _ => true
  | _ => false
theorem aD {e : Expr} (h : starred e = false) (es : List Expr) (env : Env) : starEach (e :: es) env = (false,eval e env) :: starEach es env := by
  cases e <;> first | rfl | cases h
section
variable {X : Cx} {tg : Expr} {f g : SE} {a b : CE} {x y : Expr}
theorem iCa {l : Expr} {te : TE} {wi : TI} (hl : PE X l te) (w : ∀ σ H R,wi σ H R -> te σ H fun v H1 => ∃ k : Sk,IsSrc v k /\ (∃ vs,k.seen X.K H1 vs) /\
    match k with
    | .lst a => R (Itl X.K a) H1
    | .tup a => R (Itt X.K a) H1
    | .str _ _ => False) : PI X tg l wi := by
  refine ⟨fun pins s σ H R I h => ?_⟩
  refine thn (hl.run pins s σ H _ I (w σ H R h)) fun v s1 ⟨x,H1,I1,r1,k,e,⟨vs,hs⟩,q⟩ => ?_
  cases k with
  | lst a =>
    have e : x = .ref a := e
    subst e
    cases r1
    obtain ⟨its,rv,p,hz⟩ := I1.list hs
    refine wpAny_pyIter_list p.isList ?_
    refine ⟨s1.heap.objs.size,[s1.heap.objs.size],_,_,H1,rfl,I1.kept (t' := s1.toks) fun b o e => Heap.get?_push_of_some _ e,turn_list a _,⟨_,Heap.get?_push_size _ rfl,rfl,rfl⟩,fun b hb => ?_,q⟩
    have e : b = s1.heap.objs.size := by simpa using hb
    subst e
    exact I1.fpOk (Nat.le_refl _) (I1.hok.fresh (Nat.le_refl _))
  | tup a =>
    have e : x = .ref a := e
    subst e
    cases r1
    obtain ⟨its,rv,p,hz⟩ := I1.tuple hs
    refine wpAny_pyIter_tuple (show s1.heap.IsTuple a its.toArray from p) ?_
    refine ⟨s1.heap.objs.size,[s1.heap.objs.size],_,_,H1,rfl,I1.kept (t' := s1.toks) fun b o e => Heap.get?_push_of_some _ e,turn_tuple a _,⟨_,Heap.get?_push_size _ rfl,rfl,rfl⟩,fun b hb => ?_,q⟩
    have e : b = s1.heap.objs.size := by simpa using hb
    subst e
    exact I1.fpOk (Nat.le_refl _) (I1.hok.fresh (Nat.le_refl _))
  | str _ _ => exact q.elim
theorem bS {c : CE} {f : SE} {L : Loc} {cs : Cells} {Q : Opd -> Cells -> Prop} (hf : SEm f) (h : opd c f L cs Q) : opd c f L cs fun u cs' => Q u cs' /\ ∀ i d,u = .o i d -> c.peeks.isSome = true := by
  unfold opd at h ⊢
  cases e : c.peeks with
  | none =>
    rw [e] at h
    exact hf _ _ _ _ (fun d c q => ⟨q,fun i d e => nomatch e⟩) h
  | some i =>
    rw [e] at h
    simp only at h ⊢
    generalize L[i]? = z at h ⊢
    cases z with
    | none => exact h
    | some s =>
      cases s with
      | no => exact h
      | val d => exact ⟨h,fun _ _ _ => rfl⟩
      | own d => exact ⟨h,fun _ _ _ => rfl⟩
theorem iFa (hf : SEm f) (h : PE X x (RO X.K a f)) : PI X tg x (RI X.K a.peeks.isSome fun L cs Q => opd a f L cs fun u cs1 => itemsK (view cs1 u) fun xs => Q xs (stays u cs1) cs1) := by
  refine iCa h fun σ H R ⟨p,L,cs,Rl0,q⟩ => ⟨p,L,cs,Rl0,aB hf (fun u cs1 ⟨w,hb⟩ v p1 H1 R1 x1 r1 => ?_) (bS hf q)⟩
  obtain ⟨k,ds,hk,lat,q⟩ := bT (ds := []) (c := a) R1 r1 hb w
  refine ⟨k,hk,?_⟩
  have self : ∃ vs,k.seen X.K H1 vs := by
    obtain ⟨vs,hs,_⟩ := lat p1 σ H1 L cs1 R1 ⟨fun a u e n => ⟨e,n⟩,fun _ _ e => e⟩ (fun _ => ⟨rfl,rfl⟩) (by
      cases u with
      | o i d => trivial
      | v d => cases d <;> first | trivial | rfl)
    exact ⟨vs,hs⟩
  refine ⟨self,?_⟩
  cases k with
  | lst c =>
    refine q _ p1 H1 R1 x1 fun i p' σ' H' L' cs' R' m ho hs => ?_
    obtain ⟨vs,hv,rs⟩ := lat p' σ' H' L' cs' R' m ho hs
    refine ⟨fun e => ⟨vs,hv,by rw [e,rs.len]; exact Nat.le_refl _⟩,fun x hx => ?_⟩
    obtain ⟨w,hw,rw'⟩ := rs.get hx
    refine ⟨⟨vs,w,hv,hw⟩,fun v H'' hy => ?_⟩
    obtain ⟨e,hy⟩ := hy
    subst e
    have := hy vs hv
    rw [hw] at this
    cases this
    exact ⟨R',.refl,rw'⟩
  | tup c =>
    refine q _ p1 H1 R1 x1 fun i p' σ' H' L' cs' R' m ho hs => ?_
    obtain ⟨vs,hv,rs⟩ := lat p' σ' H' L' cs' R' m ho hs
    refine ⟨fun e => ⟨vs,hv,by rw [e,rs.len]; exact Nat.le_refl _⟩,fun x hx => ?_⟩
    obtain ⟨w,hw,rw'⟩ := rs.get hx
    refine ⟨⟨vs,w,hv,hw⟩,fun v H'' hy => ?_⟩
    obtain ⟨e,hy⟩ := hy
    subst e
    have := hy vs hv
    rw [hw] at this
    cases this
    exact ⟨R',.refl,rw'⟩
  | str _ _ => exact (show False from hk).elim
theorem nU (lo : Int) (n : Nat) : (rangeD lo n).length = n := by simp [rangeD]
theorem iPa {lo : Int} {n i : Nat} {x : D} (h : (rangeD lo n)[i]? = some x) : i < n /\ x = .int (lo + (i : Nat)) := by
  have hi : i < n := by
    have := (List.getElem?_eq_some_iff.mp h).1
    rwa [nU] at this
  refine ⟨hi,?_⟩
  simp [rangeD,hi] at h
  exact h.symm
theorem walk_range {K : PySem.W.Frag} {p : Pm} {H : Hp} {L : Loc} {lo : Int} {n : Nat} {b : Bool} {st : Loc -> Cells -> Prop} : Walk K b (Itr lo n) p H L st (rangeD lo n) := by
  intro i p' σ' H' L' cs' R' m ho hs
  refine ⟨fun e => by rw [e,nU]; exact Nat.le_refl _,fun x hx => ?_⟩
  obtain ⟨hi,rfl⟩ := iPa hx
  refine ⟨hi,fun v H'' hy => ?_⟩
  obtain ⟨rfl,rfl⟩ := hy
  exact ⟨R',.refl,.int _⟩
theorem iDa {p pos : Pos} (hf : SEm f) (hg : Gl X "range") (hm : X.mg "range" = none) (h : PE X x (RE X.K f)) (hs : starred x = false) :
    PI X tg (.Call (.Name "range" p) [x] [] pos) (RI X.K false fun L cs Q => f L cs fun d cs1 => match d with
      | .int j => smallI j /\ Q (rangeD 0 j.toNat) (fun _ _ => True) cs1
      | _ => False) := by
  refine (pi_range1 hg hm (pa_cons h pa_nil (aD hs _ _)) (aD hs _ _)).imp fun σ H R ⟨p,L,cs,R0,q⟩ => ⟨p,L,cs,R0,hf _ _ _ _ (fun d cs1 w v p1 H1 R1 x1 r1 => ?_) q⟩
  cases d with
  | int j =>
    cases r1
    exact ⟨j,rfl,w.1.1,w.1.2,w.2 _ p1 H1 R1 x1 walk_range⟩
  | _ => exact w.elim
theorem iEa {p pos : Pos} (hf : SEm f) (hf2 : SEm g) (hg : Gl X "range") (hm : X.mg "range" = none) (h : PE X x (RE X.K f)) (h2 : PE X y (RE X.K g)) (hs : starred x = false) (hs2 : starred y = false) :
    PI X tg (.Call (.Name "range" p) [x,y] [] pos) (RI X.K false fun L cs Q => f L cs fun d cs1 => g L cs1 fun d2 cs2 => match d,d2 with
      | .int i,.int j => smallI i /\ smallI j /\ Q (rangeD i (j - i).toNat) (fun _ _ => True) cs2
      | _,_ => False) := by
  refine (pi_range2 hg hm (pa_cons h (pa_cons h2 pa_nil (aD hs2 _ _)) (aD hs _ _)) (by rw [aD hs,aD hs2]; rfl) (aD hs2 _ _)).imp fun σ H R ⟨p,L,cs,R0,q⟩ => ⟨p,L,cs,R0,hf _ _ _ _ (fun d cs1 w v p1 H1 R1 x1 r1 => ⟨p1,L,cs1,R1,hf2 _ _ _ _ (fun d2 cs2 w v2 p2 H2 R2 x2 r2 => ?_) w⟩) q⟩
  cases d with
  | int i =>
    cases d2 with
    | int j =>
      cases r1
      cases r2
      exact ⟨i,j,rfl,⟨w.1.1,w.1.2,w.2.1.1,w.2.1.2⟩,w.2.2 _ p2 H2 R2 (x1.trans x2) walk_range⟩
    | _ => exact w.elim
  | _ => exact w.elim
theorem lO : ∀ {xs : List D} {n i : Nat} {x : D},(enumD n xs)[i]? = some x -> ∃ y,xs[i]? = some y /\ x = .tup [.int ((n + i : Nat) : Int),y]
  | [],n,i,x,h => by simp [enumD] at h
  | z :: r,n,0,x,h => ⟨z,rfl,by simp [enumD] at h; simpa using h.symm⟩
  | z :: r,n,i + 1,x,h => by
    obtain ⟨y,h1,h2⟩ := lO (xs := r) (n := n + 1) (i := i) (by simpa [enumD] using h)
    exact ⟨y,by simpa using h1,by rw [h2,Nat.add_right_comm,Nat.add_assoc]⟩
theorem lP : ∀ (xs : List D) (n : Nat),(enumD n xs).length = xs.length
  | [],_ => rfl
  | _ :: r,n => by rw [enumD,List.length_cons,lP r,List.length_cons]
theorem cH {pins : List (Addr × Obj)} {σ : L2.St} {H : Hp} {s : Shared} {v : V} {u : Value} {k : Sk} {vs : List V} (I : Inv X pins σ H s) (hk : IsSrc v k) (r : RelV v u) (hs : k.seen X.K H vs) :
    u = k.val /\ ∃ its,k.holds its s.heap /\ ∀ b ∈ k.src,b < s.heap.objs.size := by
  cases k with
  | lst a =>
    have hk : v = .ref a := hk
    subst hk
    cases r
    obtain ⟨its,rv,p,hz⟩ := I.list hs
    exact ⟨rfl,its,p.isList,fun b hb => by rw [List.mem_singleton.mp hb]; exact p.lt⟩
  | tup a =>
    have hk : v = .ref a := hk
    subst hk
    cases r
    obtain ⟨its,rv,p,hz⟩ := I.tuple hs
    obtain ⟨o,ho,hc,hd⟩ := id p
    exact ⟨rfl,its,⟨o,ho,hc,hd⟩,fun b hb => by rw [List.mem_singleton.mp hb]; exact Heap.lt_size ho⟩
  | str _ _ => exact (show False from hk).elim
theorem iBa {p pos tpos : Pos} {elts : List Expr} {kk : Nat} {ta : TA} {wi : TI} (hg : Gl X "enumerate") (hm : X.mg "enumerate" = none) (h : PA X [x] ta) (hs : starred x = false)
    (w : ∀ σ H R,wi σ H R -> ta σ H fun vs H1 => ∃ v,vs = [v] /\ ∃ k : Sk,IsSrc v k /\ (∃ vs,k.seen X.K H1 vs) /\ R (ItE X.K k) H1) :
    PI X (.Tuple elts kk tpos) (.Call (.Name "enumerate" p) [x] [] pos) wi := by
  refine ⟨fun pins s σ H R I hw => ?_⟩
  refine Call_ (ld_blt I hg hm boot_enumerate (PyProof.Rows.callWith_type1 (thn (h.run pos pins s σ H _ I (w σ H R hw)) fun us s1 ⟨vs,H1,I1,r1,v,ev,k,hk,⟨ws,hs1⟩,q⟩ => ?_) (aD hs _ _) rfl))
  subst ev
  cases r1 with
  | cons r rr =>
    cases rr
    obtain ⟨rfl,its,hold,hlt⟩ := cH I1 hk r hs1
    refine enum1 (k.begins its) hold fun h' he hit hk' => wpAny_pyIter_enum he ?_
    have I2 : Inv X pins σ H1 { s1 with heap := h' } := I1.kept (t' := s1.toks) hk'
    refine ⟨s1.heap.objs.size + 1,[s1.heap.objs.size + 1,s1.heap.objs.size],_,_,H1,rfl,I2,turnE k (s1.heap.objs.size + 1) s1.heap.objs.size (Nat.succ_ne_self _) (fun z => absurd (hlt _ z) (Nat.not_lt.mpr (Nat.le_succ _))) (fun z => absurd (hlt _ z) (Nat.lt_irrefl _)),⟨⟨.none,he⟩,k.first hit⟩,fun b hb => ?_,q⟩
    have e' : b = s1.heap.objs.size + 1 \/ b = s1.heap.objs.size := by simpa using hb
    have hle : s1.heap.objs.size <= b := by
      rcases e' with z | z
      · rw [z]; exact Nat.le_add_right _ _
      · rw [z]; exact Nat.le_refl _
    exact I1.fpOk hle (I1.hok.fresh hle)
theorem iIa {p pos tpos : Pos} {elts : List Expr} {kk : Nat} {ta : TA} {wi : TI} (hg : Gl X "zip") (hm : X.mg "zip" = none) (h : PA X [x,y] ta) (hs : starred x = false) (hs2 : starred y = false)
    (w : ∀ σ H R,wi σ H R -> ta σ H fun vs H1 => ∃ v v2,vs = [v,v2] /\ ∃ k l : Sk,IsSrc v k /\ IsSrc v2 l /\ (∃ vs,k.seen X.K H1 vs) /\ (∃ vs,l.seen X.K H1 vs) /\ R (ItZ X.K k l) H1) :
    PI X (.Tuple elts kk tpos) (.Call (.Name "zip" p) [x,y] [] pos) wi := by
  refine ⟨fun pins s σ H R I hw => ?_⟩
  refine Call_ (ld_blt I hg hm PyProof.Rows.boot_zip (PyProof.Rows.callWith_type1 (thn (h.run pos pins s σ H _ I (w σ H R hw)) fun us s1 ⟨vs,H1,I1,r1,v,v2,ev,k,l,hk,hl,⟨ws,hs1⟩,⟨ws2,hs3⟩,q⟩ => ?_) (aD hs _ _) (by rw [aD hs2]; rfl)))
  subst ev
  cases r1 with
  | cons r rr =>
    cases rr with
    | cons r' rr =>
      cases rr
      obtain ⟨rfl,its,hold,hlt⟩ := cH I1 hk r hs1
      obtain ⟨rfl,its2,hold2,hlt2⟩ := cH I1 hl r' hs3
      have fresh5 : ∀ c,c ∈ [s1.heap.objs.size + 4,s1.heap.objs.size + 2,s1.heap.objs.size + 3,s1.heap.objs.size,s1.heap.objs.size + 1] -> FpOk X pins H1 c := fun c hcm => by
        have e' : c = s1.heap.objs.size + 4 \/ c = s1.heap.objs.size + 2 \/ c = s1.heap.objs.size + 3 \/ c = s1.heap.objs.size \/ c = s1.heap.objs.size + 1 := by simpa using hcm
        have hle : s1.heap.objs.size <= c := by
          rcases e' with z | z | z | z | z
          · rw [z]; exact Nat.le_add_right _ _
          · rw [z]; exact Nat.le_add_right _ _
          · rw [z]; exact Nat.le_add_right _ _
          · rw [z]; exact Nat.le_refl _
          · rw [z]; exact Nat.le_add_right _ _
        exact I1.fpOk hle (I1.hok.fresh hle)
      refine zip_begins2 (k.begins its) (l.begins its2) hold hold2 fun h' hz hTI hTO h1 h2 hsz hk' => wpAny_pyIter_zip hz ?_
      have I2 : Inv X pins σ H1 { s1 with heap := h' } := I1.kept (t' := s1.toks) hk'
      exact ⟨s1.heap.objs.size + 4,[s1.heap.objs.size + 4,s1.heap.objs.size + 2,s1.heap.objs.size + 3,s1.heap.objs.size,s1.heap.objs.size + 1],_,_,H1,rfl,I2,
        turnZ k l _ _ _ _ _ (zip_sep2 hlt hlt2) (fun z => absurd (hlt _ z) (Nat.lt_irrefl _)) (fun z => absurd (hlt2 _ z) (Nat.not_lt.mpr (Nat.le_succ _))),⟨hz,hTI,⟨_,_,hTO⟩,k.first h1,l.first h2⟩,fresh5,q⟩
theorem cA {K : PySem.W.Frag} {p : Pm} {σ : L2.St} {H : Hp} {L : Loc} {cs : Cells} {b : Bool} {k : Sk} {ds : List D} {st : Loc -> Cells -> Prop} (lat : Later K b p H L st k ds) (R : Rl K p σ H L cs) (hs : st L cs) : ∃ vs,k.seen K H vs := by
  obtain ⟨vs,h,_⟩ := lat p σ H L cs R ⟨fun a u e n => ⟨e,n⟩,fun _ _ e => e⟩ (fun _ => ⟨rfl,rfl⟩) hs
  exact ⟨vs,h⟩
theorem aQ {u : Opd} {L : Loc} {cs : Cells} : stays u cs L cs := by
  cases u with
  | o i d => trivial
  | v d => cases d <;> first | trivial | rfl
theorem iAa {p pos tpos : Pos} {elts : List Expr} {kk : Nat} (hf : SEm f) (hg : Gl X "enumerate") (hm : X.mg "enumerate" = none) (h : PE X x (RO X.K a f)) (hs : starred x = false) :
    PI X (.Tuple elts kk tpos) (.Call (.Name "enumerate" p) [x] [] pos) (RI X.K a.peeks.isSome fun L cs Q => opd a f L cs fun u cs1 => itemsK (view cs1 u) fun xs => Q (enumD 0 xs) (stays u cs1) cs1) := by
  refine iBa hg hm (pa_cons h pa_nil (aD hs _ _)) hs fun σ H R ⟨p,L,cs,R0,q⟩ => ⟨p,L,cs,R0,aB hf (fun u cs1 ⟨w,hb⟩ v p1 H1 R1 x1 r1 => ?_) (bS hf q)⟩
  obtain ⟨k,ds,hk,lat,q⟩ := bT (ds := []) (c := a) R1 r1 hb w
  refine ⟨v,rfl,k,hk,cA lat R1 aQ,q _ p1 H1 R1 x1 fun i p' σ' H' L' cs' R' m ho hs => ?_⟩
  obtain ⟨vs,hv,rs⟩ := lat p' σ' H' L' cs' R' m ho hs
  refine ⟨fun e => ⟨vs,hv,by rw [e,lP,rs.len]⟩,fun x hx => ?_⟩
  obtain ⟨y,hy,rfl⟩ := lO hx
  obtain ⟨w,hw,rw'⟩ := rs.get hy
  refine ⟨⟨vs,w,hv,hw⟩,fun v H'' hyl => ?_⟩
  obtain ⟨T,z,rfl,hT,rfl,hz⟩ := hyl
  have hz := hz vs hv
  rw [hw] at hz
  cases hz
  obtain ⟨R2,x2⟩ := R'.new (o := .tup [.int (i : Nat),w]) hT
  refine ⟨R2,x2,.tup upd_same (R'.M hT) (.cons ?_ (.cons (rw'.mv x2.ext.mv) .nil))⟩
  rw [Nat.zero_add]
  exact .int _
theorem oY : ∀ {xs ys : List D} {i : Nat} {x : D},(zipD xs ys)[i]? = some x -> ∃ y z,xs[i]? = some y /\ ys[i]? = some z /\ x = .tup [y,z]
  | [],_,i,x,h => by simp [zipD] at h
  | _ :: _,[],i,x,h => by simp [zipD] at h
  | a :: r,b :: t,0,x,h => ⟨a,b,rfl,rfl,by simp [zipD] at h; exact h.symm⟩
  | a :: r,b :: t,i + 1,x,h => by
    obtain ⟨y,z,h1,h2,h3⟩ := oY (xs := r) (ys := t) (i := i) (by simpa [zipD] using h)
    exact ⟨y,z,by simpa using h1,by simpa using h2,h3⟩
theorem oZ : ∀ (xs ys : List D),(zipD xs ys).length = min xs.length ys.length
  | [],_ => by simp [zipD]
  | _ :: _,[] => by simp [zipD]
  | a :: r,b :: t => by rw [zipD,List.length_cons,oZ r t,List.length_cons,List.length_cons]; omega
theorem Later.mv {K : PySem.W.Frag} {p p1 : Pm} {H H1 : Hp} {b : Bool} {L : Loc} {k : Sk} {ds : List D} {st : Loc -> Cells -> Prop} (h : Later K b p H L st k ds) (x : ExtE p p1 H H1) : Later K b p1 H1 L st k ds :=
  fun p' σ' H' L' cs' R m ho hs => h p' σ' H' L' cs' R ⟨fun a u e n => by
    obtain ⟨e1,n1⟩ := x.ext.mv.at_ a u e n
    exact m.at_ a u e1 n1,fun n a e => m.cl n a (x.ext.mv.cl n a e)⟩ (fun z => ⟨(ho z).1,(ho z).2.trans x.own⟩) hs
theorem iGa {p pos tpos : Pos} {elts : List Expr} {kk : Nat} (hf : SEm f) (hf2 : SEm g) (hg : Gl X "zip") (hm : X.mg "zip" = none) (h : PE X x (RO X.K a f)) (h2 : PE X y (RO X.K b g)) (hs : starred x = false) (hs2 : starred y = false) :
    PI X (.Tuple elts kk tpos) (.Call (.Name "zip" p) [x,y] [] pos) (RI X.K (a.peeks.isSome || b.peeks.isSome) fun L cs Q => opd a f L cs fun u cs1 => opd b g L cs1 fun v cs2 => itemsK (view cs2 u) fun xs => itemsK (view cs2 v) fun ys =>
      Q (zipD xs ys) (fun L' cs' => stays u cs2 L' cs' /\ stays v cs2 L' cs') cs2) := by
  refine iIa hg hm (pa_cons h (pa_cons h2 pa_nil (aD hs2 _ _)) (aD hs _ _)) hs hs2 fun σ H R ⟨p,L,cs,R0,q⟩ => ⟨p,L,cs,R0,aB hf (fun u cs1 ⟨w,hb⟩ v p1 H1 R1 x1 r1 => ⟨p1,L,cs1,R1,aB hf2 (fun u2 cs2 ⟨w,hb2⟩ v2 p2 H2 R2 x2 r2 => ?_) (bS hf2 w)⟩) (bS hf q)⟩
  have r1 := r1.mv x2
  obtain ⟨k,ds,hk,lat,w⟩ := bT (ds := []) (c := a) R2 r1 hb w
  obtain ⟨l,ds2,hl,lat2,q⟩ := bT (ds := []) (c := b) R2 r2 hb2 w
  refine ⟨v,v2,rfl,k,l,hk,hl,cA lat R2 aQ,cA lat2 R2 aQ,q _ p2 H2 R2 (x1.trans x2) fun i p' σ' H' L' cs' R' m ho hs => ?_⟩
  obtain ⟨vs,hv,rs⟩ := lat p' σ' H' L' cs' R' m (fun z => ho (by rw [z]; rfl)) hs.1
  obtain ⟨vs2,hv2,rs2⟩ := lat2 p' σ' H' L' cs' R' m (fun z => ho (by rw [z,Bool.or_true])) hs.2
  refine ⟨fun e => ⟨vs,vs2,hv,hv2,by rw [e,oZ,rs.len,rs2.len]⟩,fun x hx => ?_⟩
  obtain ⟨y,y2,hy,hy2,rfl⟩ := oY hx
  obtain ⟨w,hw,rw'⟩ := rs.get hy
  obtain ⟨w2,hw2,rw2⟩ := rs2.get hy2
  refine ⟨⟨vs,vs2,w,w2,hv,hv2,hw,hw2⟩,fun v H'' hyl => ?_⟩
  obtain ⟨T,z,z2,rfl,hT,rfl,hz⟩ := hyl
  obtain ⟨hz,hz2⟩ := hz vs vs2 hv hv2
  rw [hw] at hz
  rw [hw2] at hz2
  cases hz
  cases hz2
  obtain ⟨R3,x3⟩ := R'.new (o := .tup [w,w2]) hT
  exact ⟨R3,x3,.tup upd_same (R'.M hT) (.cons (rw'.mv x3.ext.mv) (.cons (rw2.mv x3.ext.mv) .nil))⟩
end
end Sp
set_option autoImplicit true
namespace Sp
open PySem PySem.Spec PyProof.Rows L2
def ItZ3 (K : PySem.W.Frag) (k l m : Sk) : It :=
  ⟨fun i H => ∃ (xs ys zs : List V) (x y z : V),k.seen K H xs /\ l.seen K H ys /\ m.seen K H zs /\ xs[i]? = some x /\ ys[i]? = some y /\ zs[i]? = some z,
    fun i H v H' => ∃ T x y z,v = .ref T /\ H T = none /\ H' = upd H T (.tup [x,y,z]) /\ ∀ xs ys zs,k.seen K H xs -> l.seen K H ys -> m.seen K H zs -> xs[i]? = some x /\ ys[i]? = some y /\ zs[i]? = some z,
    fun i H => ∃ xs ys zs : List V,k.seen K H xs /\ l.seen K H ys /\ m.seen K H zs /\ i = min (min xs.length ys.length) zs.length⟩
theorem turnZ3 {P : Program} {w : World} {K : PySem.W.Frag} {elts : List Expr} {kk : Nat} {tpos : Pos} (k l m : Sk) (z TI TO i1 i2 i3 : Addr) (S : ZipSep3 z TI TO i1 i2 i3 (i1 :: k.src) (i2 :: l.src) (i3 :: m.src)) (h1s : i1 ∉ k.src) (h2s : i2 ∉ l.src) (h3s : i3 ∉ m.src) :
    Turn P w K (.Tuple elts kk tpos) (ItZ3 K k l m) [z,TI,TO,i1,i2,i3] z (fun i h => IsZip h z TI TO .none /\ IsTupOf3 h TI (.ref i1) (.ref i2) (.ref i3) /\ (∃ a1 a2 a3,IsTupOf3 h TO a1 a2 a3) /\ k.iter h i1 i /\ l.iter h i2 i /\ m.iter h i3 i) where
  mem := by simp
  obj := fun i h st b hb => by
    obtain ⟨hz,hTI,⟨x,y,u,hTO⟩,j1,j2,j3⟩ := st
    have e' : b = z \/ b = TI \/ b = TO \/ b = i1 \/ b = i2 \/ b = i3 := by simpa using hb
    rcases e' with q | q | q | q | q | q
    · rw [q]; exact ⟨_,hz,fun v q => nomatch q⟩
    · rw [q]; exact ⟨_,hTI,fun v q => nomatch q⟩
    · rw [q]; exact ⟨_,hTO,fun v q => nomatch q⟩
    · rw [q]; exact k.obj_ok j1
    · rw [q]; exact l.obj_ok j2
    · rw [q]; exact m.obj_ok j3
  keep := fun i h h' st hk => by
    obtain ⟨hz,hTI,⟨x,y,u,hTO⟩,j1,j2,j3⟩ := st
    exact ⟨hk z (by simp) _ hz,hk TI (by simp) _ hTI,⟨x,y,u,hk TO (by simp) _ hTO⟩,k.iter_at j1 fun o q => hk i1 (by simp) o q,l.iter_at j2 fun o q => hk i2 (by simp) o q,m.iter_at j3 fun o q => hk i3 (by simp) o q⟩
  item := by
    intro X hP hw hK hc i pins s σ H E I hf st hg
    subst hP hw hK
    obtain ⟨hz,hTI,⟨x0,y0,u0,hTO⟩,j1,j2,j3⟩ := st
    obtain ⟨xs,ys,zs,x,y,u,hqx,hqy,hqz,hx,hy,hu⟩ := hg
    obtain ⟨its,hold,hlt,D1⟩ := k.draws (A := X.A.in1) I (I.ok.hd hc) i1 hqx h1s
    obtain ⟨its2,hold2,hlt2,D2⟩ := l.draws (A := X.A.in1) I (I.ok.hd hc) i2 hqy h2s
    obtain ⟨its3,hold3,hlt3,D3⟩ := m.draws (A := X.A.in1) I (I.ok.hd hc) i3 hqz h3s
    have W := WalksT.zipD3 S D1 D2 D3
    have hi : i < min (min xs.length ys.length) zs.length := Nat.lt_min.mpr ⟨Nat.lt_min.mpr ⟨(List.getElem?_eq_some_iff.mp hx).1,(List.getElem?_eq_some_iff.mp hy).1⟩,(List.getElem?_eq_some_iff.mp hu).1⟩
    refine W.item i s _ _ hi ⟨hz,hTI,⟨_,_,_,hTO⟩,⟨j1,hold⟩,⟨j2,hold2⟩,j3,hold3⟩ fun T vals h' tk hP hT hTup hM hk => ?_
    refine ⟨_,rfl,W.go elts kk tpos i T { s with heap := h',toks := tk } _ _ hM fun h2 st2 hk2 => ?_⟩
    obtain ⟨u1,u2,u3,⟨y1,hy1,ru1⟩,⟨y2,hy2,ru2⟩,⟨y3,hy3,ru3⟩,rfl⟩ := hP
    rw [hx] at hy1
    rw [hy] at hy2
    rw [hu] at hy3
    cases hy1
    cases hy2
    cases hy3
    obtain ⟨o,ho,hcl,n,hd⟩ := hTup
    have hT2 := hk2 T o (W.apart i T h' hM) ho
    have new : ObjOk X.prog X.w (upd H T (.tup [x,y,u])) h2 T (.tup [x,y,u]) :=
      ⟨by show 3 <= sizeLine; decide,[u1,u2,u3],.cons ru1 (.cons ru2 (.cons ru3 .nil)),⟨o,hT2,hcl,n,hd⟩⟩
    have sub : ∀ b,b ∉ [z,TI,TO,i1,i2,i3] -> b ∉ [z,TO,i1,i2,i3] := fun b hb q => hb (by
      have : b = z \/ b = TO \/ b = i1 \/ b = i2 \/ b = i3 := by simpa using q
      simp only [List.mem_cons]
      rcases this with q | q | q | q | q <;> simp [q])
    have I1 : Inv X pins σ (upd H T (.tup [x,y,u])) { s with heap := h2,toks := tk } :=
      I.turnedNew (ch := [z,TI,TO,i1,i2,i3]) (fun b ob hb q => hk2 b ob (sub b hb) (hk b ob (sub b hb) q)) hf hT new
    obtain ⟨z1,z2,z3,⟨z4,_⟩,⟨z5,_⟩,z6,_⟩ := st2
    refine ⟨.ref T,_,I1,rfl,⟨T,x,y,u,rfl,I.hok.fresh hT,rfl,fun xs' ys' zs' ex ey ez => by rw [<- k.inj I hqx ex,<- l.inj I hqy ey,<- m.inj I hqz ez]; exact ⟨hx,hy,hu⟩⟩,⟨z1,z2,z3,z4,z5,z6⟩,fun b hb => ?_⟩
    have hb' : b < s.heap.objs.size := by
      have e' : b = z \/ b = TI \/ b = TO \/ b = i1 \/ b = i2 \/ b = i3 := by simpa using hb
      rcases e' with q | q | q | q | q | q
      · rw [q]; exact Heap.lt_size hz
      · rw [q]; exact Heap.lt_size hTI
      · rw [q]; exact Heap.lt_size hTO
      · rw [q]
        obtain ⟨o',q,_⟩ := k.obj_ok j1
        exact Heap.lt_size q
      · rw [q]
        obtain ⟨o',q,_⟩ := l.obj_ok j2
        exact Heap.lt_size q
      · rw [q]
        obtain ⟨o',q,_⟩ := m.obj_ok j3
        exact Heap.lt_size q
    rw [upd_ne (Nat.ne_of_lt (Nat.lt_of_lt_of_le hb' hT))]
    exact (hf b hb).1
  done := by
    intro X hP hw hK hc i pins s σ H E I hf st hg
    subst hP hw hK
    obtain ⟨hz,hTI,⟨x0,y0,u0,hTO⟩,j1,j2,j3⟩ := st
    obtain ⟨xs,ys,zs,hqx,hqy,hqz,rfl⟩ := hg
    obtain ⟨its,hold,hlt,D1⟩ := k.draws (A := X.A.in1) I (I.ok.hd hc) i1 hqx h1s
    obtain ⟨its2,hold2,hlt2,D2⟩ := l.draws (A := X.A.in1) I (I.ok.hd hc) i2 hqy h2s
    obtain ⟨its3,hold3,hlt3,D3⟩ := m.draws (A := X.A.in1) I (I.ok.hd hc) i3 hqz h3s
    have W := WalksT.zipD3 S D1 D2 D3
    refine W.done s _ _ ⟨hz,hTI,⟨_,_,_,hTO⟩,⟨j1,hold⟩,⟨j2,hold2⟩,j3,hold3⟩ fun h' tk hk => ⟨rfl,I.turnedL (ch := [z,TI,TO,i1,i2,i3]) (fun b o hb q => hk b o (fun q' => hb ?_) q) hf⟩
    have : b = z \/ b = TO \/ b = i1 \/ b = i2 \/ b = i3 := by simpa using q'
    simp only [List.mem_cons]
    rcases this with q | q | q | q | q <;> simp [q]
  self := fun A i s Q E st h => wpAny_pyIter_zip st.1 h
variable {X : Cx} {x y u : Expr} {pos : Pos} {a b c : CE} {f g h3 : SE}
theorem iJa {p pos tpos : Pos} {elts : List Expr} {kk : Nat} {ta : TA} {wi : TI} (hg : Gl X "zip") (hm : X.mg "zip" = none) (h : PA X [x,y,u] ta) (hs : starred x = false) (hs2 : starred y = false) (hs3 : starred u = false)
    (w : ∀ σ H R,wi σ H R -> ta σ H fun vs H1 => ∃ v v2 v3,vs = [v,v2,v3] /\ ∃ k l m : Sk,IsSrc v k /\ IsSrc v2 l /\ IsSrc v3 m /\ (∃ vs,k.seen X.K H1 vs) /\ (∃ vs,l.seen X.K H1 vs) /\ (∃ vs,m.seen X.K H1 vs) /\ R (ItZ3 X.K k l m) H1) :
    PI X (.Tuple elts kk tpos) (.Call (.Name "zip" p) [x,y,u] [] pos) wi := by
  refine ⟨fun pins s σ H R I hw => ?_⟩
  refine Call_ (ld_blt I hg hm PyProof.Rows.boot_zip (PyProof.Rows.callWith_type1 (thn (h.run pos pins s σ H _ I (w σ H R hw)) fun us s1 ⟨vs,H1,I1,r1,v,v2,v3,ev,k,l,m,hk,hl,hm',⟨ws,hs1⟩,⟨ws2,hs2'⟩,⟨ws3,hs3'⟩,q⟩ => ?_) (aD hs _ _) (by rw [aD hs2,aD hs3]; rfl)))
  subst ev
  cases r1 with
  | cons r rr =>
    cases rr with
    | cons r' rr =>
      cases rr with
      | cons r'' rr =>
      cases rr
      obtain ⟨rfl,its,hold,hlt⟩ := cH I1 hk r hs1
      obtain ⟨rfl,its2,hold2,hlt2⟩ := cH I1 hl r' hs2'
      obtain ⟨rfl,its3,hold3,hlt3⟩ := cH I1 hm' r'' hs3'
      have fresh5 : ∀ c,c ∈ [s1.heap.objs.size + 5,s1.heap.objs.size + 3,s1.heap.objs.size + 4,s1.heap.objs.size,s1.heap.objs.size + 1,s1.heap.objs.size + 2] -> FpOk X pins H1 c := fun c hcm => by
        have e' : c = s1.heap.objs.size + 5 \/ c = s1.heap.objs.size + 3 \/ c = s1.heap.objs.size + 4 \/ c = s1.heap.objs.size \/ c = s1.heap.objs.size + 1 \/ c = s1.heap.objs.size + 2 := by simpa using hcm
        have hle : s1.heap.objs.size <= c := by
          rcases e' with z | z | z | z | z | z
          · rw [z]; exact Nat.le_add_right _ _
          · rw [z]; exact Nat.le_add_right _ _
          · rw [z]; exact Nat.le_add_right _ _
          · rw [z]; exact Nat.le_refl _
          · rw [z]; exact Nat.le_add_right _ _
          · rw [z]; exact Nat.le_add_right _ _
        exact I1.fpOk hle (I1.hok.fresh hle)
      refine zip_begins3 (k.begins its) (l.begins its2) (m.begins its3) hold hold2 hold3 fun h' hz hTI hTO h1 h2 h3 hsz hk' => wpAny_pyIter_zip hz ?_
      have I2 : Inv X pins σ H1 { s1 with heap := h' } := I1.kept (t' := s1.toks) hk'
      exact ⟨s1.heap.objs.size + 5,[s1.heap.objs.size + 5,s1.heap.objs.size + 3,s1.heap.objs.size + 4,s1.heap.objs.size,s1.heap.objs.size + 1,s1.heap.objs.size + 2],_,_,H1,rfl,I2,
        turnZ3 k l m _ _ _ _ _ _ (zip_sep3 hlt hlt2 hlt3) (fun z => absurd (hlt _ z) (Nat.lt_irrefl _)) (fun z => absurd (hlt2 _ z) (Nat.not_lt.mpr (Nat.le_succ _))) (fun z => absurd (hlt3 _ z) (Nat.not_lt.mpr (Nat.le_add_right _ _))),⟨hz,hTI,⟨_,_,_,hTO⟩,k.first h1,l.first h2,m.first h3⟩,fresh5,q⟩
theorem oW : ∀ {xs ys zs : List D} {i : Nat} {x : D},(zipD3 xs ys zs)[i]? = some x -> ∃ y z u,xs[i]? = some y /\ ys[i]? = some z /\ zs[i]? = some u /\ x = .tup [y,z,u]
  | [],_,_,i,x,h => by simp [zipD3] at h
  | _ :: _,[],_,i,x,h => by simp [zipD3] at h
  | _ :: _,_ :: _,[],i,x,h => by simp [zipD3] at h
  | a :: r,b :: t,c :: v,0,x,h => ⟨a,b,c,rfl,rfl,rfl,by simp [zipD3] at h; exact h.symm⟩
  | a :: r,b :: t,c :: v,i + 1,x,h => by
    obtain ⟨y,z,u,h1,h2,h3,h4⟩ := oW (xs := r) (ys := t) (zs := v) (i := i) (by simpa [zipD3] using h)
    exact ⟨y,z,u,by simpa using h1,by simpa using h2,by simpa using h3,h4⟩
theorem oX : ∀ (xs ys zs : List D),(zipD3 xs ys zs).length = min (min xs.length ys.length) zs.length
  | [],_,_ => by simp [zipD3]
  | _ :: _,[],_ => by simp [zipD3]
  | _ :: _,_ :: _,[] => by simp [zipD3]
  | a :: r,b :: t,c :: v => by rw [zipD3,List.length_cons,oX r t v,List.length_cons,List.length_cons,List.length_cons]; omega
theorem iHa {p pos tpos : Pos} {elts : List Expr} {kk : Nat} (hf : SEm f) (hf2 : SEm g) (hf3 : SEm h3) (hg : Gl X "zip") (hm : X.mg "zip" = none) (h : PE X x (RO X.K a f)) (h2 : PE X y (RO X.K b g)) (h4 : PE X u (RO X.K c h3)) (hs : starred x = false) (hs2 : starred y = false) (hs3 : starred u = false) :
    PI X (.Tuple elts kk tpos) (.Call (.Name "zip" p) [x,y,u] [] pos) (RI X.K (a.peeks.isSome || b.peeks.isSome || c.peeks.isSome) fun L cs Q => opd a f L cs fun u cs1 => opd b g L cs1 fun v cs2 => opd c h3 L cs2 fun w cs3 => itemsK (view cs3 u) fun xs => itemsK (view cs3 v) fun ys => itemsK (view cs3 w) fun zs =>
      Q (zipD3 xs ys zs) (fun L' cs' => stays u cs3 L' cs' /\ stays v cs3 L' cs' /\ stays w cs3 L' cs') cs3) := by
  refine iJa hg hm (pa_cons h (pa_cons h2 (pa_cons h4 pa_nil (aD hs3 _ _)) (aD hs2 _ _)) (aD hs _ _)) hs hs2 hs3 fun σ H R ⟨p,L,cs,R0,q⟩ => ⟨p,L,cs,R0,aB hf (fun u cs1 ⟨w,hb⟩ v p1 H1 R1 x1 r1 => ⟨p1,L,cs1,R1,aB hf2 (fun u2 cs2 ⟨w,hb2⟩ v2 p2 H2 R2 x2 r2 => ⟨p2,L,cs2,R2,aB hf3 (fun u3 cs3 ⟨w,hb3⟩ v3 p3 H3 R3 x3 r3 => ?_) (bS hf3 w)⟩) (bS hf2 w)⟩) (bS hf q)⟩
  have r1 := (r1.mv x2).mv x3
  have r2 := r2.mv x3
  obtain ⟨k,ds,hk,lat,w⟩ := bT (ds := []) (c := a) R3 r1 hb w
  obtain ⟨l,ds2,hl,lat2,w⟩ := bT (ds := []) (c := b) R3 r2 hb2 w
  obtain ⟨m',ds3,hm',lat3,q⟩ := bT (ds := []) (c := c) R3 r3 hb3 w
  refine ⟨v,v2,v3,rfl,k,l,m',hk,hl,hm',cA lat R3 aQ,cA lat2 R3 aQ,cA lat3 R3 aQ,q _ p3 H3 R3 ((x1.trans x2).trans x3) fun i p' σ' H' L' cs' R' m ho hs => ?_⟩
  obtain ⟨vs,hv,rs⟩ := lat p' σ' H' L' cs' R' m (fun z => ho (by rw [z]; rfl)) hs.1
  obtain ⟨vs2,hv2,rs2⟩ := lat2 p' σ' H' L' cs' R' m (fun z => ho (by rw [z,Bool.or_true]; rfl)) hs.2.1
  obtain ⟨vs3,hv3,rs3⟩ := lat3 p' σ' H' L' cs' R' m (fun z => ho (by rw [z,Bool.or_true])) hs.2.2
  refine ⟨fun e => ⟨vs,vs2,vs3,hv,hv2,hv3,by rw [e,oX,rs.len,rs2.len,rs3.len]⟩,fun x hx => ?_⟩
  obtain ⟨y,y2,y3,hy,hy2,hy3,rfl⟩ := oW hx
  obtain ⟨w,hw,rw'⟩ := rs.get hy
  obtain ⟨w2,hw2,rw2⟩ := rs2.get hy2
  obtain ⟨w3,hw3,rw3⟩ := rs3.get hy3
  refine ⟨⟨vs,vs2,vs3,w,w2,w3,hv,hv2,hv3,hw,hw2,hw3⟩,fun v H'' hyl => ?_⟩
  obtain ⟨T,z,z2,z3,rfl,hT,rfl,hz⟩ := hyl
  obtain ⟨hz,hz2,hz3⟩ := hz vs vs2 vs3 hv hv2 hv3
  rw [hw] at hz
  rw [hw2] at hz2
  rw [hw3] at hz3
  cases hz
  cases hz2
  cases hz3
  obtain ⟨R3,x3⟩ := R'.new (o := .tup [w,w2,w3]) hT
  exact ⟨R3,x3,.tup upd_same (R'.M hT) (.cons (rw'.mv x3.ext.mv) (.cons (rw2.mv x3.ext.mv) (.cons (rw3.mv x3.ext.mv) .nil)))⟩
end Sp
set_option autoImplicit true
namespace Sp
open PySem PySem.Spec PyProof.Rows L2
def RR (K : PySem.W.Frag) (f : SE) : TE := fun σ H Q => ∃ p L cs,Rl K p σ H L cs /\ f L cs fun z cs' => ∀ v p1 H1 H',Rl K p1 σ H1 L cs' -> ExtE p p1 H H1 -> Res K p1 H1 z v H' -> Q v H'
abbrev ST := Loc -> Cells -> (Bool -> Cells -> Prop) -> Prop
def tst (c : CE) (f : SE) : ST := fun L cs Q => opd c f L cs fun u cs1 => tru (view cs1 u) fun t => Q t cs1
def RB (K : PySem.W.Frag) (F : ST) : TT := fun σ H Q => ∃ p L cs,Rl K p σ H L cs /\ F L cs fun t cs1 => ∀ p' H',Rl K p' σ H' L cs1 -> ExtE p p' H H' -> Q t H'
inductive RepOs (K : PySem.W.Frag) (p : Pm) (H : Hp) (L : Loc) : List V -> List Opd -> Prop
  | nil : RepOs K p H L [] []
  | cons {v : V} {vs : List V} {d : Opd} {ds : List Opd} : RepO K p H L v d -> RepOs K p H L vs ds -> RepOs K p H L (v :: vs) (d :: ds)
def RAs (K : PySem.W.Frag) (f : Loc -> Cells -> (List D -> Cells -> Prop) -> Prop) : TA := fun σ H Q => ∃ p L cs,Rl K p σ H L cs /\ f L cs fun ds cs' => ∀ vs p' H',Rl K p' σ H' L cs' -> ExtE p p' H H' -> Reps K p' H' vs ds -> Q vs H'
def RAo (K : PySem.W.Frag) (f : Loc -> Cells -> (List Opd -> Cells -> Prop) -> Prop) : TA := fun σ H Q => ∃ p L cs,Rl K p σ H L cs /\ f L cs fun ds cs' => ∀ vs p' H',Rl K p' σ H' L cs' -> ExtE p p' H H' -> RepOs K p' H' L vs ds -> Q vs H'
def RP (K : PySem.W.Frag) (f : Loc -> Cells -> (Option Int -> Cells -> Prop) -> Prop) : TO := fun σ H Q => ∃ p L cs,Rl K p σ H L cs /\ f L cs fun o cs' => ∀ p' H',Rl K p' σ H' L cs' -> ExtE p p' H H' -> Q o H'
theorem RepOs.mv {K : PySem.W.Frag} {p p' : Pm} {H H' : Hp} {L : Loc} (x : ExtE p p' H H') : ∀ {vs : List V} {us : List Opd},RepOs K p H L vs us -> RepOs K p' H' L vs us
  | _,_,.nil => .nil
  | _,_,.cons h r => .cons (h.mv x) (RepOs.mv x r)
theorem RepOs.seens {K : PySem.W.Frag} {p : Pm} {σ : L2.St} {H : Hp} {L : Loc} {cs : Cells} (R : Rl K p σ H L cs) : ∀ {vs : List V} {us : List Opd},RepOs K p H L vs us -> Seens K p H vs (us.map (view cs))
  | _,_,.nil => .nil
  | _,_,.cons h r => .cons (R.view h) (RepOs.seens R r)
theorem aT {c : CE} {f : SE} (hp : c.peeks = none) {L : Loc} {cs : Cells} {Q : Opd -> Cells -> Prop} : opd c f L cs Q = f L cs fun d cs' => Q (.v d) cs' := by
  unfold opd
  rw [hp]
section
variable {X : Cx} {e x y : Expr} {f g h : SE} {a b c : CE} {pos : Pos}
theorem j5a {K : PySem.W.Frag} {p : Pm} {H H' : Hp} {d : D} {v : V} (h : isOwn d = true) (r : Res K p H d v H') : ∃ a o,v = .ref a /\ H a = none /\ H' = upd H a o /\ (∀ vs,o ≠ .tup vs) /\ ∀ (p' : Pm),Mv p p' H (upd H a o) -> Con K p' (upd H a o) a d := by
  cases d with
  | lst ds =>
    obtain ⟨a,vs,rfl,hn,rfl,rs⟩ := r
    exact ⟨a,_,rfl,hn,rfl,(fun _ e => nomatch e),fun p' m => ⟨vs,upd_same,rs.mv m⟩⟩
  | dct ds =>
    obtain ⟨a,vs,rfl,hn,rfl,rs⟩ := r
    exact ⟨a,_,rfl,hn,rfl,(fun _ e => nomatch e),fun p' m => ⟨vs,upd_same,rs.mv m⟩⟩
  | dctT ds =>
    obtain ⟨a,vs,rfl,hn,rfl,rs⟩ := r
    exact ⟨a,_,rfl,hn,rfl,(fun _ e => nomatch e),fun p' m => ⟨vs,upd_same,rs.mv m⟩⟩
  | _ => cases h
theorem lE {K : PySem.W.Frag} {p : Pm} {H : Hp} {a : Addr} {d : D} (hM : ¬ p.M a) (h : Con K (p.with a) H a d) : Rep K p H (.ref a) d := by
  cases d with
  | lst ds =>
    obtain ⟨vs,e,r⟩ := h
    exact .lst (.inl ⟨.inl e,hM⟩) (r.mv Mv.less)
  | dct ds =>
    obtain ⟨vs,e,r⟩ := h
    exact .dK (.inl e) hM (r.mv Mv.less)
  | dctT ds =>
    obtain ⟨vs,e,r⟩ := h
    exact .dT (.inl e) hM (r.mv Mv.less)
  | _ => exact h.elim
theorem cF (hf : SEm f) (h : PE X e (RR X.K f)) : PE X e (RE X.K f) := h.imp fun σ H Q ⟨p,L,cs,R,q⟩ => ⟨p,L,cs,R,hf L cs _ _ (fun z cs' w v p1 H1 H' R1 x1 r => by
  obtain ⟨R2,x2,r2⟩ := R1.res r
  exact w v p1 H' R2 (x1.trans x2) r2) q⟩
theorem kHa (hf : SEm f) (h : PE X e (RR X.K f)) : PE X e (RF X.K f) := h.imp fun σ H Q ⟨p,L,cs,R,q⟩ => ⟨p,L,cs,R,hf L cs _ _ (fun z cs' w v p1 H1 H' R1 x1 r => by
  obtain ⟨hown,w⟩ := w
  obtain ⟨a,o,rfl,hn,rfl,ho,rs⟩ := j5a hown r
  obtain ⟨R2,m2⟩ := R1.more (o := o) hn ho
  have h0 : H a = none := by
    cases q : H a with
    | none => rfl
    | some o => exact absurd hn (x1.ext.dom a (by rw [q]; exact Option.some_ne_none o))
  exact w a p1 _ R2 (x1.trans (R1.new hn).2) h0 (R1.M hn) (rs _ m2)) q⟩
theorem n7 (hf : SEm f) (h : PE X e (RF X.K f)) : PE X e (RE X.K fun L cs Q => f L cs fun d cs' => isOwn d = true /\ Q d cs') := h.imp fun σ H Q ⟨p,L,cs,R,q⟩ => ⟨p,L,cs,R,hf L cs _ _ (fun z cs' ⟨e,w⟩ => ⟨e,fun a p' H' R' x' hn hM hC => w _ p' H' R'.less x' (lE hM hC)⟩) q⟩
theorem aM (hp : c.peeks = none) (h : PE X e (RE X.K f)) : PE X e (RO X.K c f) := h.imp fun σ H Q ⟨p,L,cs,R,q⟩ => ⟨p,L,cs,R,by
  rw [aT hp] at q
  exact q⟩
theorem cE (hf : SEm f) (h : PE X e (RO X.K c f)) (he : ∀ whole,isTrue e X.env whole = (do let v <- whole; standAt e.pos; holding [v] (truthy v))) : PT X e (RB X.K (tst c f)) :=
  (pt_truth h he).imp fun σ H Q ⟨p,L,cs,R,q⟩ => ⟨p,L,cs,R,aB hf (fun u cs1 w v p1 H1 R1 x1 r1 => by
    obtain ⟨b,tb,wb⟩ := iA (R1.view r1) w
    exact ⟨b,tb,wb p1 H1 R1 x1⟩) q⟩
theorem n0 {i : Nat} (h : PE X e (tVar i)) : PE X e (RE X.K fun L cs Q => match L[i]? with
    | some (.val d) => Q d cs
    | _ => False) := h.imp fun σ H Q ⟨p,L,cs,R,q⟩ => by
  have q : (match L[i]? with
    | some (.val d) => ∀ v p' H',Rl X.K p' σ H' L cs -> ExtE p p' H H' -> Rep X.K p' H' v d -> Q v H'
    | _ => False) := q
  cases e : L[i]? with
  | none => rw [e] at q; exact q.elim
  | some s =>
    rw [e] at q
    cases s with
    | no => exact q.elim
    | own d => exact q.elim
    | val d =>
      obtain ⟨v,e1,r⟩ := R.slot i _ e
      exact ⟨v,e1,q v p H R .refl r⟩
theorem n8 {i : Nat} {f : SE} (h : PE X e (tVar i)) : PE X e (RO X.K (.peek i) f) := h.imp fun σ H Q ⟨p,L,cs,R,q⟩ => by
  have q : (match L[i]? with
    | some (.own d) => ∀ v p' H',Rl X.K p' σ H' L cs -> ExtE p p' H H' -> RepO X.K p' H' L v (.o i d) -> Q v H'
    | some (.val d) => ∀ v p' H',Rl X.K p' σ H' L cs -> ExtE p p' H H' -> RepO X.K p' H' L v (.v d) -> Q v H'
    | _ => False) := q
  cases e : L[i]? with
  | none => rw [e] at q; exact q.elim
  | some s =>
    rw [e] at q
    cases s with
    | no => exact q.elim
    | own d =>
      obtain ⟨a,e1,e2,hc⟩ := R.slot i _ e
      exact ⟨_,e2,q _ p H R .refl ⟨a,rfl,e1,e⟩⟩
    | val d =>
      obtain ⟨v,e1,r⟩ := R.slot i _ e
      exact ⟨v,e1,q v p H R .refl r⟩
theorem eC {v : V} {d : D} (h : PE X e (tC v)) (hr : ∀ p H,Rep X.K p H v d) : PE X e (RE X.K fun _ cs Q => Q d cs) := h.imp fun σ H Q ⟨p,L,cs,R,q⟩ => q v p H R .refl (hr p H)
theorem kAa (o : BOp) (hf : SEm f) (hg : SEm g) (ha : PE X x (RO X.K a f)) (hb : PE X y (RO X.K b g)) :
    PE X (.BinOp x o.of y pos) (RR X.K fun L cs Q => opd a f L cs fun u cs1 => opd b g L cs1 fun v cs2 => binK o (view cs2 u) (view cs2 v) fun d => Q d cs2) :=
  (pe_op (hOa o) ha hb).imp fun σ H Q ⟨p,L,cs,R,q⟩ => ⟨p,L,cs,R,aB hf (fun u cs1 h1 v1 p1 H1 R1 x1 r1 => ⟨p1,L,cs1,R1,aB hg (fun w cs2 h2 v2 p2 H2 R2 x2 r2 =>
    ⟨p2,view cs2 u,view cs2 w,R2.view (r1.mv x2),R2.view r2,aC (fun z hz v H' hr => hz v p2 H2 H' R2 (x1.trans x2) hr) h2⟩) h1⟩) q⟩
theorem kEa (hf : SEm f) (ha : PE X x (RE X.K f)) : PE X (.UnaryOp .USub x pos) (RR X.K fun L cs Q => f L cs fun d cs1 => match d with
    | .int i => Q (.int (-i)) cs1
    | _ => False) :=
  (pe_un un_neg ha).imp fun σ H Q ⟨p,L,cs,R,q⟩ => ⟨p,L,cs,R,hf L cs _ _ (fun d cs1 w v p1 H1 R1 x1 r1 => by
    cases d with
    | int i =>
      cases r1
      exact ⟨i,rfl,w _ p1 H1 H1 R1 x1 Res.int⟩
    | _ => exact w.elim) q⟩
def tAndG (K : PySem.W.Frag) (ta tb : TE) : TE := fun σ H Q => ta σ H fun x H1 => ∃ k,TruV K x H1 k /\ match k with
  | true => tb σ H1 Q
  | false => Q x H1
def tOrG (K : PySem.W.Frag) (ta tb : TE) : TE := fun σ H Q => ta σ H fun x H1 => ∃ k,TruV K x H1 k /\ match k with
  | true => Q x H1
  | false => tb σ H1 Q
theorem hYa {z : Expr} {rest : List Expr} {ta tb : TE} (ha : PE X x ta) (hb : PE X (.BoolOp .And (z :: rest) pos) tb) : PE X (.BoolOp .And (x :: z :: rest) pos) (tAndG X.K ta tb) := by
  refine ⟨fun pins s σ H Q I h => ?_⟩
  refine BoolOp_and (thn (ha.run pins s σ H _ I h) fun v s1 ⟨x,H1,I1,r1,k,hk,q1⟩ => ?_)
  refine thn (tru_ok pins s1 σ H1 x v (fun b H' => b = k /\ H' = H1) I1 r1 ⟨k,hk,rfl,rfl⟩) fun c s2 ⟨H2,I2,e,e2⟩ => ?_
  subst e e2
  cases c with
  | true => exact hb.run pins s2 σ H2 Q I2 q1
  | false => exact ⟨x,H2,I2,r1,q1⟩
theorem h5a {z : Expr} {rest : List Expr} {ta tb : TE} (ha : PE X x ta) (hb : PE X (.BoolOp .Or (z :: rest) pos) tb) : PE X (.BoolOp .Or (x :: z :: rest) pos) (tOrG X.K ta tb) := by
  refine ⟨fun pins s σ H Q I h => ?_⟩
  refine BoolOp_or (thn (ha.run pins s σ H _ I h) fun v s1 ⟨x,H1,I1,r1,k,hk,q1⟩ => ?_)
  refine thn (tru_ok pins s1 σ H1 x v (fun b H' => b = k /\ H' = H1) I1 r1 ⟨k,hk,rfl,rfl⟩) fun c s2 ⟨H2,I2,e,e2⟩ => ?_
  subst e e2
  cases c with
  | false => exact hb.run pins s2 σ H2 Q I2 q1
  | true => exact ⟨x,H2,I2,r1,q1⟩
def andW (f g : SE) : SE := fun L cs Q => f L cs fun d cs1 => tru (deref cs1 d) fun t => match t with
  | true => g L cs1 Q
  | false => Q d cs1
def orW (f g : SE) : SE := fun L cs Q => f L cs fun d cs1 => tru (deref cs1 d) fun t => match t with
  | true => Q d cs1
  | false => g L cs1 Q
theorem i3a {z : Expr} {rest : List Expr} (hf : SEm f) (hg : SEm g) (ha : PE X x (RE X.K f)) (hb : PE X (.BoolOp .And (z :: rest) pos) (RE X.K g)) : PE X (.BoolOp .And (x :: z :: rest) pos) (RE X.K (andW f g)) :=
  (hYa ha hb).imp fun σ H Q ⟨p,L,cs,R,q⟩ => ⟨p,L,cs,R,hf L cs _ _ (fun d cs1 w v p1 H1 R1 x1 r1 => by
    obtain ⟨t,ht,w⟩ := iA (R1.deref r1) w
    refine ⟨t,ht,?_⟩
    cases t with
    | false => exact w v p1 H1 R1 x1 r1
    | true => exact ⟨p1,L,cs1,R1,hg L cs1 _ _ (fun d2 cs2 w2 v2 p2 H2 R2 x2 r2 => w2 v2 p2 H2 R2 (x1.trans x2) r2) w⟩) q⟩
theorem jSa {z : Expr} {rest : List Expr} (hf : SEm f) (hg : SEm g) (ha : PE X x (RE X.K f)) (hb : PE X (.BoolOp .Or (z :: rest) pos) (RE X.K g)) : PE X (.BoolOp .Or (x :: z :: rest) pos) (RE X.K (orW f g)) :=
  (h5a ha hb).imp fun σ H Q ⟨p,L,cs,R,q⟩ => ⟨p,L,cs,R,hf L cs _ _ (fun d cs1 w v p1 H1 R1 x1 r1 => by
    obtain ⟨t,ht,w⟩ := iA (R1.deref r1) w
    refine ⟨t,ht,?_⟩
    cases t with
    | true => exact w v p1 H1 R1 x1 r1
    | false => exact ⟨p1,L,cs1,R1,hg L cs1 _ _ (fun d2 cs2 w2 v2 p2 H2 R2 x2 r2 => w2 v2 p2 H2 R2 (x1.trans x2) r2) w⟩) q⟩
structure OkV (c : CE) (f : SE) : Prop where
  m : SEm f
  v : ∀ L cs (Q : Opd -> Cells -> Prop),f L cs (fun d cs' => Q (.v d) cs') -> opd c f L cs Q
theorem mCa (hc : c.peeks = none) (ka : OkV a f) (kb : OkV b g) {L : Loc} {cs : Cells} {Q : Bool -> Cells -> Prop} (h : tst c (andW f g) L cs Q) : tst a f L cs fun t cs1 => match t with
    | true => tst b g L cs1 Q
    | false => Q false cs1 := by
  unfold tst at h ⊢
  rw [aT hc] at h
  have h : f L cs fun d cs1 => tru (deref cs1 d) fun t => match t with
    | true => g L cs1 (fun d2 cs2 => tru (deref cs2 d2) fun t => Q t cs2)
    | false => tru (deref cs1 d) fun t => Q t cs1 := h
  refine ka.v _ _ _ (ka.m L cs _ _ (fun d cs1 w => ?_) h)
  show tru (deref cs1 d) _
  unfold tru at w ⊢
  cases e : truV (deref cs1 d) with
  | none => rw [e] at w; exact w
  | some cz =>
    obtain ⟨cc,z⟩ := cz
    rw [e] at w
    refine ⟨w.1,?_⟩
    have w := w.2
    cases z with
    | true => exact kb.v _ _ _ w
    | false => exact w.2
theorem mDa (hc : c.peeks = none) (ka : OkV a f) (kb : OkV b g) {L : Loc} {cs : Cells} {Q : Bool -> Cells -> Prop} (h : tst c (orW f g) L cs Q) : tst a f L cs fun t cs1 => match t with
    | true => Q true cs1
    | false => tst b g L cs1 Q := by
  unfold tst at h ⊢
  rw [aT hc] at h
  have h : f L cs fun d cs1 => tru (deref cs1 d) fun t => match t with
    | true => tru (deref cs1 d) fun t => Q t cs1
    | false => g L cs1 (fun d2 cs2 => tru (deref cs2 d2) fun t => Q t cs2) := h
  refine ka.v _ _ _ (ka.m L cs _ _ (fun d cs1 w => ?_) h)
  show tru (deref cs1 d) _
  unfold tru at w ⊢
  cases e : truV (deref cs1 d) with
  | none => rw [e] at w; exact w
  | some cz =>
    obtain ⟨cc,z⟩ := cz
    rw [e] at w
    refine ⟨w.1,?_⟩
    have w := w.2
    cases z with
    | false => exact kb.v _ _ _ w
    | true => exact w.2
def STm (F : ST) : Prop := ∀ L cs (Q Q' : Bool -> Cells -> Prop),(∀ d c,Q d c -> Q' d c) -> F L cs Q -> F L cs Q'
theorem cJ (hf : SEm f) : STm (tst c f) := fun L cs Q Q' h q => aB hf (fun u cs1 w => aC (fun t z => h t cs1 z) w) q
theorem iVa {z : Expr} {rest : List Expr} {F : ST} {F2 : ST} (hF : STm F) (hF2 : STm F2) (ha : PT X x (RB X.K F)) (hb : PW X (.BoolOp .And (z :: rest) pos) (RB X.K F2)) : PW X (.BoolOp .And (x :: z :: rest) pos) (RB X.K fun L cs Q => F L cs fun t cs1 => match t with
    | true => F2 L cs1 Q
    | false => Q false cs1) :=
  (pw_and ha hb).imp fun σ H Q ⟨p,L,cs,R,q⟩ => ⟨p,L,cs,R,hF L cs _ _ (fun t cs1 w p1 H1 R1 x1 => by
    cases t with
    | true => exact (if_pos rfl).mpr ⟨p1,L,cs1,R1,hF2 L cs1 _ _ (fun t cs2 w2 p2 H2 R2 x2 => w2 p2 H2 R2 (x1.trans x2)) w⟩
    | false => exact (if_neg (by decide)).mpr (w p1 H1 R1 x1)) q⟩
theorem i1a {z : Expr} {rest : List Expr} {F : ST} {F2 : ST} (hF : STm F) (hF2 : STm F2) (ha : PT X x (RB X.K F)) (hb : PW X (.BoolOp .Or (z :: rest) pos) (RB X.K F2)) : PW X (.BoolOp .Or (x :: z :: rest) pos) (RB X.K fun L cs Q => F L cs fun t cs1 => match t with
    | true => Q true cs1
    | false => F2 L cs1 Q) :=
  (pw_or ha hb).imp fun σ H Q ⟨p,L,cs,R,q⟩ => ⟨p,L,cs,R,hF L cs _ _ (fun t cs1 w p1 H1 R1 x1 => by
    cases t with
    | false => exact (if_neg (by decide)).mpr ⟨p1,L,cs1,R1,hF2 L cs1 _ _ (fun t cs2 w2 p2 H2 R2 x2 => w2 p2 H2 R2 (x1.trans x2)) w⟩
    | true => exact (if_pos rfl).mpr (w p1 H1 R1 x1)) q⟩
theorem RB.imp' {F F2 : ST} {σ : L2.St} {H : Hp} {Q : Bool -> Hp -> Prop} {K : PySem.W.Frag} (w : ∀ L cs Q,F2 L cs Q -> F L cs Q) : RB K F2 σ H Q -> RB K F σ H Q := fun ⟨p,L,cs,R,q⟩ => ⟨p,L,cs,R,w _ _ _ q⟩
def notW (a : CE) (f : SE) : SE := fun L cs Q => opd a f L cs fun u cs1 => tru (view cs1 u) fun t => Q (.bl (!t)) cs1
theorem kFa (hf : SEm f) (ha : PE X x (RO X.K a f)) : PE X (.UnaryOp .Not x pos) (RR X.K (notW a f)) := by
  have h : PE X (.UnaryOp .Not x pos) (fun σ H Q => RO X.K a f σ H fun x H1 => ∃ k,TruV X.K x H1 k /\ Q (.bl (!k)) H1) := by
    refine ⟨fun pins s σ H Q I h => ?_⟩
    refine UnaryOp_ (thn (ha.run pins s σ H _ I h) fun v s1 ⟨x,H1,I1,r1,k,hk,q1⟩ => ?_)
    exact not_of (thn (tru_ok pins s1 σ H1 x v (fun b H' => b = k /\ H' = H1) I1 r1 ⟨k,hk,rfl,rfl⟩) fun c s2 ⟨H2,I2,e,e2⟩ => by
      subst e e2
      exact ⟨.bl (!c),H2,I2,rfl,q1⟩)
  exact h.imp fun σ H Q ⟨p,L,cs,R,q⟩ => ⟨p,L,cs,R,aB hf (fun u cs1 w v p1 H1 R1 x1 r1 => by
    obtain ⟨t,ht,w⟩ := iA (R1.view r1) w
    exact ⟨t,ht,w _ p1 H1 H1 R1 x1 Res.bl⟩) q⟩
theorem i0a (hf : SEm f) (hc : c.peeks = none) (ha : PT X x (RB X.K (tst a f))) : PT X (.UnaryOp .Not x pos) (RB X.K (tst c (notW a f))) :=
  (pt_not ha).imp fun σ H Q ⟨p,L,cs,R,q⟩ => ⟨p,L,cs,R,by
    unfold tst at q
    rw [aT hc] at q
    exact aB hf (fun u cs1 w => aC (fun t z => (z.2 : _)) w) q⟩
def ifeW (a : CE) (f g h : SE) : SE := fun L cs Q => opd a f L cs fun u cs1 => tru (view cs1 u) fun c => match c with
  | true => g L cs1 Q
  | false => h L cs1 Q
theorem jEa {z : Expr} (hf : SEm f) (hg : SEm g) (hh : SEm h) (ht : PT X x (RB X.K (tst a f))) (ha : PE X y (RE X.K g)) (hb : PE X z (RE X.K h)) : PE X (.IfExp x y z pos) (RE X.K (ifeW a f g h)) :=
  (pe_ifExp ht ha hb).imp fun σ H Q ⟨p,L,cs,R,q⟩ => ⟨p,L,cs,R,aB hf (fun u cs1 w => aC (fun t q p1 H1 R1 x1 => by
    cases t with
    | true => exact (if_pos rfl).mpr ⟨p1,L,cs1,R1,hg L cs1 _ _ (fun d2 cs2 w2 v2 p2 H2 R2 x2 r2 => w2 v2 p2 H2 R2 (x1.trans x2) r2) q⟩
    | false => exact (if_neg (by decide)).mpr ⟨p1,L,cs1,R1,hh L cs1 _ _ (fun d2 cs2 w2 v2 p2 H2 R2 x2 r2 => w2 v2 p2 H2 R2 (x1.trans x2) r2) q⟩) w) q⟩
theorem iZa {z : Expr} {a2 a3 : CE} (hf : SEm f) (kg : OkV a2 g) (kh : OkV a3 h) (hc : c.peeks = none) (ht : PT X x (RB X.K (tst a f))) (ha : PT X y (RB X.K (tst a2 g))) (hb : PT X z (RB X.K (tst a3 h))) : PT X (.IfExp x y z pos) (RB X.K (tst c (ifeW a f g h))) := by
  have q0 : PT X (.IfExp x y z pos) (fun σ H Q => RB X.K (tst a f) σ H fun t H1 => match t with
      | true => RB X.K (tst a2 g) σ H1 Q
      | false => RB X.K (tst a3 h) σ H1 Q) := by
    refine ⟨fun pins s σ H Q I h => ?_⟩
    refine isTrue_IfExp (thn (ht.run pins s σ H _ I h) fun d s1 ⟨H1,I1,q1⟩ => ?_)
    cases d with
    | true => exact ha.run pins s1 σ H1 Q I1 q1
    | false => exact hb.run pins s1 σ H1 Q I1 q1
  refine q0.imp fun σ H Q ⟨p,L,cs,R,q⟩ => ⟨p,L,cs,R,?_⟩
  unfold tst at q
  rw [aT hc] at q
  refine aB hf (fun u cs1 w => aC (fun t q p1 H1 R1 x1 => ?_) w) q
  cases t with
  | true => exact ⟨p1,L,cs1,R1,kg.v _ _ _ (kg.m L cs1 _ _ (fun d2 cs2 w2 => aC (fun t q p2 H2 R2 x2 => q p2 H2 R2 (x1.trans x2)) w2) q)⟩
  | false => exact ⟨p1,L,cs1,R1,kh.v _ _ _ (kh.m L cs1 _ _ (fun d2 cs2 w2 => aC (fun t q p2 H2 R2 x2 => q p2 H2 R2 (x1.trans x2)) w2) q)⟩
end
end Sp
set_option autoImplicit true
namespace Sp
open PySem PySem.Spec PyProof.Rows L2
def Pm.cut (p : Pm) (n : Nat) : Pm := ⟨p.cell.take n,fun _ => none,p.rsv⟩
section
variable {K : PySem.W.Frag} {p : Pm} {H : Hp} {n : Nat}
theorem b5 {a : Addr} (h : (p.cut n).M a) : p.M a := by
  rcases h with q | ⟨i,q⟩ | q
  · exact .inl (List.mem_of_mem_take q)
  · cases q
  · exact .inr (.inr q)
mutual
theorem Rep.cut : ∀ {v : V} {d : D},Rep K p H v d -> D.rbel n d = true -> Rep K (p.cut n) H v d
  | _,_,.non,_ => .non
  | _,_,.bl b,_ => .bl b
  | _,_,.int i,_ => .int i
  | _,_,.str x,_ => .str x
  | _,_,.tup h m r,e => .tup h (fun z => m (b5 z)) (Reps.cut r e)
  | _,_,.ptup h d m r,e => .ptup h d (fun z => m (b5 z)) (Reps.cut r e)
  | _,_,.vtup h m r,e => .vtup h (fun z => m (b5 z)) (Reps.cut r e)
  | _,_,.lst h r,e => .lst (h.elim (fun q => .inl ⟨q.1,fun z => q.2 (b5 z)⟩) .inr) (Reps.cut r e)
  | _,_,.dK h m r,e => .dK h (fun z => m (b5 z)) (RepK.cut r e)
  | _,_,.dT h m r,e => .dT h (fun z => m (b5 z)) (RepT.cut r e)
  | _,.ref m,.ref h,e => .ref (by
      have hm : m < n := of_decide_eq_true e
      show (p.cell.take n)[m]? = _
      rw [List.getElem?_take_of_lt hm]
      exact h)
theorem Reps.cut : ∀ {vs : List V} {ds : List D},Reps K p H vs ds -> D.rbels n ds = true -> Reps K (p.cut n) H vs ds
  | _,_,.nil,_ => .nil
  | _,_,.cons h r,e => by
    unfold D.rbels at e
    rw [Bool.and_eq_true] at e
    exact .cons (Rep.cut h e.1) (Reps.cut r e.2)
theorem RepK.cut : ∀ {vs : List (Key × V)} {ds : List (Key × D)},RepK K p H vs ds -> D.rbelk n ds = true -> RepK K (p.cut n) H vs ds
  | _,_,.nil,_ => .nil
  | _,_,.cons h r,e => by
    unfold D.rbelk at e
    rw [Bool.and_eq_true] at e
    exact .cons (Rep.cut h e.1) (RepK.cut r e.2)
theorem RepT.cut : ∀ {vs : List (List Key × V)} {ds : List (List Key × D)},RepT K p H vs ds -> D.rbelt n ds = true -> RepT K (p.cut n) H vs ds
  | _,_,.nil,_ => .nil
  | _,_,.cons h r,e => by
    unfold D.rbelt at e
    rw [Bool.and_eq_true] at e
    exact .cons (Rep.cut h e.1) (RepT.cut r e.2)
end
theorem jS {n : Nat} : ∀ fs : List (Str × D),(fs.all fun p => D.rbel n p.2) = true -> D.rbels n (fs.map (·.2)) = true
  | [],_ => rfl
  | x :: xs,e => by
    rw [List.all_cons,Bool.and_eq_true] at e
    rw [List.map_cons]
    unfold D.rbels
    rw [Bool.and_eq_true]
    exact ⟨e.1,jS xs e.2⟩
theorem CellOk.cut {a : Addr} : ∀ {c : Cell},CellOk K p H a c -> Cell.rbel n c = true -> CellOk K (p.cut n) H a c
  | .seq ds,⟨vs,h,r⟩,e => ⟨vs,h,r.cut e⟩
  | .map ds,⟨vs,h,r⟩,e => ⟨vs,h,r.cut e⟩
  | .mapT ds,⟨vs,h,r⟩,e => ⟨vs,h,r.cut e⟩
  | .inst c fs,⟨C,dx,vs,h,hc,hk,r⟩,e => ⟨C,dx,vs,h,hc,hk,r.cut (jS fs e)⟩
end
def Pm.bare (p : Pm) : Pm := ⟨p.cell,fun _ => none,p.rsv⟩
section
variable {K : PySem.W.Frag} {p p' : Pm} {H H' : Hp} {cs cs' : Cells} {v : V} {d : D}
theorem Mv.bare : Mv p p.bare H H := ⟨fun a u e n => ⟨e,fun q => n (by
  rcases q with q | ⟨i,q⟩ | q
  · exact .inl q
  · cases q
  · exact .inr (.inr q))⟩,fun _ _ e => e⟩
theorem Pm.Ok.bare (h : p.Ok) : p.bare.Ok := ⟨h.nd,(fun _ _ _ e _ => (nomatch e)),(fun _ _ e => (nomatch e)),h.rc,(fun _ _ _ e => (nomatch e))⟩
theorem Ext.bare (x : Ext p p' H H') : Ext p p'.bare H H' := ⟨x.cell,x.keep,(fun _ _ e => (nomatch e)),x.rsv,x.dom⟩
mutual
theorem Rep.rb : ∀ {v : V} {d : D},Rep K p H v d -> D.rbel p.cell.length d = true
  | _,_,.non => rfl
  | _,_,.bl _ => rfl
  | _,_,.int _ => rfl
  | _,_,.str _ => rfl
  | _,_,.tup _ _ r => Reps.rb r
  | _,_,.ptup _ _ _ r => Reps.rb r
  | _,_,.vtup _ _ r => Reps.rb r
  | _,_,.lst _ r => Reps.rb r
  | _,_,.dK _ _ r => RepK.rb r
  | _,_,.dT _ _ r => RepT.rb r
  | _,_,.ref h => decide_eq_true (List.getElem?_eq_some_iff.mp h).1
theorem Reps.rb : ∀ {vs : List V} {ds : List D},Reps K p H vs ds -> D.rbels p.cell.length ds = true
  | _,_,.nil => rfl
  | _,_,.cons h r => by
    unfold D.rbels
    rw [Bool.and_eq_true]
    exact ⟨Rep.rb h,Reps.rb r⟩
theorem RepK.rb : ∀ {vs : List (Key × V)} {ds : List (Key × D)},RepK K p H vs ds -> D.rbelk p.cell.length ds = true
  | _,_,.nil => rfl
  | _,_,.cons h r => by
    unfold D.rbelk
    rw [Bool.and_eq_true]
    exact ⟨Rep.rb h,RepK.rb r⟩
theorem RepT.rb : ∀ {vs : List (List Key × V)} {ds : List (List Key × D)},RepT K p H vs ds -> D.rbelt p.cell.length ds = true
  | _,_,.nil => rfl
  | _,_,.cons h r => by
    unfold D.rbelt
    rw [Bool.and_eq_true]
    exact ⟨Rep.rb h,RepT.rb r⟩
end
theorem nY {n : Nat} : ∀ fs : List (Str × D),D.rbels n (fs.map (·.2)) = true -> (fs.all fun p => D.rbel n p.2) = true
  | [],_ => rfl
  | x :: xs,e => by
    rw [List.map_cons] at e
    unfold D.rbels at e
    rw [Bool.and_eq_true] at e
    rw [List.all_cons,Bool.and_eq_true]
    exact ⟨e.1,nY xs e.2⟩
theorem CellOk.rb {a : Addr} : ∀ {c : Cell},CellOk K p H a c -> Cell.rbel p.cell.length c = true
  | .seq ds,⟨_,_,r⟩ => Reps.rb r
  | .map ds,⟨_,_,r⟩ => RepK.rb r
  | .mapT ds,⟨_,_,r⟩ => RepT.rb r
  | .inst c fs,⟨_,_,_,_,_,_,r⟩ => nY fs (Reps.rb r)
theorem CsOk.rb (C : CsOk K p H cs) : cs.all (Cell.rbel cs.length) = true := by
  refine List.all_eq_true.mpr fun c hc => ?_
  obtain ⟨i,hi,e⟩ := List.getElem_of_mem hc
  have hp : i < p.cell.length := by rw [C.len]; exact hi
  have := (C.at_ i c _ (by rw [<- e]; exact List.getElem?_eq_getElem hi) (List.getElem?_eq_getElem hp)).rb
  rwa [C.len] at this
end
section
variable {K : PySem.W.Frag} {p p' : Pm} {H : Hp} {n : Nat} (hc : p'.cell = p.cell.take n) (hM : ∀ a,p'.M a -> p.M a)
include hc hM
mutual
theorem Rep.cutG : ∀ {v : V} {d : D},Rep K p H v d -> D.rbel n d = true -> Rep K p' H v d
  | _,_,.non,_ => .non
  | _,_,.bl b,_ => .bl b
  | _,_,.int i,_ => .int i
  | _,_,.str x,_ => .str x
  | _,_,.tup h m r,e => .tup h (fun z => m (hM _ z)) (Reps.cutG r e)
  | _,_,.ptup h d m r,e => .ptup h d (fun z => m (hM _ z)) (Reps.cutG r e)
  | _,_,.vtup h m r,e => .vtup h (fun z => m (hM _ z)) (Reps.cutG r e)
  | _,_,.lst h r,e => .lst (h.elim (fun q => .inl ⟨q.1,fun z => q.2 (hM _ z)⟩) .inr) (Reps.cutG r e)
  | _,_,.dK h m r,e => .dK h (fun z => m (hM _ z)) (RepK.cutG r e)
  | _,_,.dT h m r,e => .dT h (fun z => m (hM _ z)) (RepT.cutG r e)
  | _,.ref m,.ref h,e => .ref (by
      have hm : m < n := of_decide_eq_true e
      rw [hc,List.getElem?_take_of_lt hm]
      exact h)
theorem Reps.cutG : ∀ {vs : List V} {ds : List D},Reps K p H vs ds -> D.rbels n ds = true -> Reps K p' H vs ds
  | _,_,.nil,_ => .nil
  | _,_,.cons h r,e => by
    unfold D.rbels at e
    rw [Bool.and_eq_true] at e
    exact .cons (Rep.cutG h e.1) (Reps.cutG r e.2)
theorem RepK.cutG : ∀ {vs : List (Key × V)} {ds : List (Key × D)},RepK K p H vs ds -> D.rbelk n ds = true -> RepK K p' H vs ds
  | _,_,.nil,_ => .nil
  | _,_,.cons h r,e => by
    unfold D.rbelk at e
    rw [Bool.and_eq_true] at e
    exact .cons (Rep.cutG h e.1) (RepK.cutG r e.2)
theorem RepT.cutG : ∀ {vs : List (List Key × V)} {ds : List (List Key × D)},RepT K p H vs ds -> D.rbelt n ds = true -> RepT K p' H vs ds
  | _,_,.nil,_ => .nil
  | _,_,.cons h r,e => by
    unfold D.rbelt at e
    rw [Bool.and_eq_true] at e
    exact .cons (Rep.cutG h e.1) (RepT.cutG r e.2)
end
theorem CellOk.cutG {a : Addr} : ∀ {c : Cell},CellOk K p H a c -> Cell.rbel n c = true -> CellOk K p' H a c
  | .seq ds,⟨vs,h,r⟩,e => ⟨vs,h,r.cutG hc hM e⟩
  | .map ds,⟨vs,h,r⟩,e => ⟨vs,h,r.cutG hc hM e⟩
  | .mapT ds,⟨vs,h,r⟩,e => ⟨vs,h,r.cutG hc hM e⟩
  | .inst c fs,⟨C,dx,vs,h,hc',hk,r⟩,e => ⟨C,dx,vs,h,hc',hk,r.cutG hc hM (jS fs e)⟩
end
theorem jT {K : PySem.W.Frag} {p : Pm} {H : Hp} : ∀ {ns : List Int} {vs : List V},Reps K p H vs (ns.map D.int) -> vs = ns.map V.int
  | [],_,.nil => rfl
  | n :: r,_,.cons h t => by
    cases h
    rw [List.map_cons,jT t]
def Pm.lend (p : Pm) (i : Nat) (a : Addr) : Pm := ⟨p.cell ++ [a],fun _ => none,fun b => p.rsv b \/ ∃ j,j ≠ i /\ p.own j = some b⟩
section
variable {K : PySem.W.Frag} {p p' : Pm} {σ : L2.St} {H H' : Hp} {L : Loc} {cs cs' : Cells} {i : Nat} {a : Addr} {ns : List Int}
theorem mU (ho : p.own i = some a) {b : Addr} : (p.lend i a).M b ↔ p.M b := by
  constructor
  · rintro (q | ⟨j,q⟩ | q | ⟨j,_,q⟩)
    · rcases List.mem_append.mp q with q | q
      · exact .inl q
      · rw [List.mem_singleton.mp q]; exact .inr (.inl ⟨i,ho⟩)
    · cases q
    · exact .inr (.inr q)
    · exact .inr (.inl ⟨j,q⟩)
  · rintro (q | ⟨j,q⟩ | q)
    · exact .inl (List.mem_append_left _ q)
    · by_cases e : j = i
      · subst e
        rw [ho] at q
        cases q
        exact .inl (List.mem_append_right _ (List.mem_singleton.mpr rfl))
      · exact .inr (.inr (.inr ⟨j,e,q⟩))
    · exact .inr (.inr (.inl q))
theorem Mv.lend (ho : p.own i = some a) : Mv p (p.lend i a) H H := ⟨fun b u e n => ⟨e,fun q => n ((mU ho).mp q)⟩,fun m b e => by
  show (p.cell ++ [a])[m]? = _
  rw [List.getElem?_append_left (List.getElem?_eq_some_iff.mp e).1]
  exact e⟩
theorem Rl.lend (R : Rl K p σ H L cs) (ho : p.own i = some a) (hl : L[i]? = some (.own (.lst (ns.map D.int)))) :
    (p.lend i a).Ok /\ CsOk K (p.lend i a) H (cs ++ [.seq (ns.map D.int)]) /\ (∀ b,(p.lend i a).rsv b -> Bx (H b)) /\ Rep K (p.lend i a) H (.ref a) (.ref cs.length) /\ H a = some (.lst (ns.map V.int)) := by
  have hs := R.slot i _ hl
  obtain ⟨b,hb,_,vs,hv,rv⟩ := hs
  have hb : p.own i = some b := hb
  rw [ho] at hb
  cases hb
  have ev := jT rv
  have hn : p.cell.length = cs.length := R.cells.len
  refine ⟨⟨?_,(fun _ _ _ e _ => (nomatch e)),(fun _ _ e => (nomatch e)),fun b hb hm => ?_,(fun _ _ _ e => (nomatch e))⟩,⟨?_,fun m c b e1 e2 => ?_⟩,fun b hb => ?_,?_,?_⟩
  · exact List.nodup_append.mpr ⟨R.ok.nd,List.pairwise_singleton _ _,fun x hx y hy e => by
      rw [List.mem_singleton.mp hy] at e
      exact R.ok.oc i a ho (by rw [<- e]; exact hx)⟩
  · rcases List.mem_append.mp hm with q | q
    · rcases hb with h | ⟨j,_,h⟩
      · exact R.ok.rc b h q
      · exact R.ok.oc j b h q
    · have q := List.mem_singleton.mp q
      subst q
      rcases hb with h | ⟨j,hj,h⟩
      · exact R.ok.ro b h i ho
      · exact hj (R.ok.inj j i b h ho)
  · show (p.cell ++ [a]).length = _
    rw [List.length_append,List.length_append,hn]
    rfl
  · have e2 : (p.cell ++ [a])[m]? = some b := e2
    by_cases q : m < cs.length
    · rw [List.getElem?_append_left q] at e1
      rw [List.getElem?_append_left (by omega)] at e2
      exact (R.cells.at_ m c b e1 e2).mv (Mv.lend ho) rfl
    · rw [List.getElem?_append_right (by omega)] at e1 e2
      have e1 := List.mem_singleton.mp (List.mem_of_getElem? e1)
      have e2 := List.mem_singleton.mp (List.mem_of_getElem? e2)
      subst e1 e2
      exact ⟨vs,hv,rv.mv (Mv.lend ho)⟩
  · rcases hb with h | ⟨j,_,h⟩
    · exact R.rsv b h
    · exact R.bx (.inr (.inl ⟨j,h⟩))
  · refine .ref ?_
    show (p.cell ++ [a])[cs.length]? = some a
    rw [<- hn]
    exact List.getElem?_concat_length ..
  · rw [hv,ev]
theorem Rl.back (R : Rl K p σ H L cs) (ho : p.own i = some a) (hl : L[i]? = some (.own (.lst (ns.map D.int)))) (ok : p'.Ok) (C : CsOk K p' H' (cs ++ [.seq (ns.map D.int)])) (x : Ext (p.lend i a) p' H H') {v : V} {d : D} (r : Rep K p' H' v d) (hd : D.rbel cs.length d = true) :
    Rl K p σ H' L cs /\ ExtE p p H H' /\ Rep K p H' v d := by
  obtain ⟨_,_,_,_,ha⟩ := R.lend ho hl
  obtain ⟨more,ec,hm⟩ := x.cell
  have ec : p'.cell = p.cell ++ [a] ++ more := ec
  have hn : p.cell.length = cs.length := R.cells.len
  have et : p.cell = p'.cell.take cs.length := by rw [ec,List.append_assoc,<- hn,List.take_left']; rfl
  have hM : ∀ b,p.M b -> p'.M b := fun b hb => by
    rcases (mU ho).mpr hb with q | ⟨j,q⟩ | q
    · exact .inl (by rw [ec]; exact List.mem_append_left _ q)
    · cases q
    · exact .inr (.inr (by rw [x.rsv]; exact q))
  have keep : ∀ b,p.own i ≠ some b -> b ∉ p.cell -> H b ≠ none -> H' b = H b := fun b h1 h2 h3 => by
    cases e : H b with
    | none => exact absurd e h3
    | some o =>
      refine x.keep b o e (fun q => ?_) fun j z => (nomatch z)
      rcases List.mem_append.mp q with q | q
      · exact h2 q
      · rw [List.mem_singleton.mp q] at h1
        exact h1 ho
  have ha' : H' a = H a := by
    have e1 : (cs ++ [Cell.seq (ns.map D.int)])[cs.length]? = some (.seq (ns.map D.int)) := List.getElem?_concat_length ..
    have e2 : p'.cell[cs.length]? = some a := by
      rw [ec,List.append_assoc,<- hn]
      rw [List.getElem?_append_right (Nat.le_refl _),Nat.sub_self]
      rfl
    obtain ⟨vs,hv,rv⟩ := C.at_ _ _ a e1 e2
    rw [hv,jT rv,ha]
  have m : Mv p p H H' := ⟨fun b u e hb => ⟨by
    have := keep b (fun q => hb (.inr (.inl ⟨i,q⟩))) (fun q => hb (.inl q)) (by rw [e]; exact Option.some_ne_none _)
    rw [this,e],hb⟩,fun _ _ e => e⟩
  have own : ∀ j b,p.own j = some b -> H' b = H b := fun j b hb => by
    by_cases e : b = a
    · rw [e,ha']
    · exact keep b (fun q => e (by rw [ho] at q; cases q; rfl)) (R.ok.oc j b hb) (R.ownSome hb)
  have hcr := R.cells.rb
  refine ⟨⟨R.ok,R.slen,fun j s e => ?_,R.ownL,⟨hn,fun k c b e1 e2 => ?_⟩,fun b hb => ?_⟩,⟨⟨⟨[],(List.append_nil _).symm,fun _ h => absurd h List.not_mem_nil⟩,fun b o e h1 h2 => ?_,fun j b e => .inl ⟨j,e⟩,rfl,x.dom⟩,rfl,own⟩,r.cutG et hM hd⟩
  · have := R.slot j s e
    cases s with
    | no => exact trivial
    | val z =>
      obtain ⟨w,hw,rw'⟩ := this
      exact ⟨w,hw,rw'.mv m⟩
    | own z =>
      obtain ⟨b,hb,hσ,hC⟩ := this
      exact ⟨b,hb,hσ,hC.mv m (own j b hb)⟩
  · have hk : k < cs.length := (List.getElem?_eq_some_iff.mp e1).1
    have e3 : (cs ++ [Cell.seq (ns.map D.int)])[k]? = some c := by rw [List.getElem?_append_left hk]; exact e1
    have e4 : p'.cell[k]? = some b := by
      rw [et,List.getElem?_take_of_lt hk] at e2
      exact e2
    exact (C.at_ k c b e3 e4).cutG et hM (List.all_eq_true.mp hcr c (List.mem_of_getElem? e1))
  · have hbx := R.rsv b hb
    rw [keep b (fun q => R.ok.ro b hb i q) (R.ok.rc b hb) hbx.1]
    exact hbx
  · have := keep b (h2 i) h1 (by rw [e]; exact Option.some_ne_none _)
    rw [this,e]
end
def lendW (G : SF) (nm : Str) (c : CE) (f : SE) : SE := fun L cs Q => opd c f L cs fun u cs1 => match u with
  | .o _ d => ∃ ns : List Int,d = .lst (ns.map D.int) /\ G nm [.ref cs1.length] (cs1 ++ [.seq (ns.map D.int)]) fun r cs2 => D.rbel cs1.length r = true /\ cs2 = cs1 ++ [.seq (ns.map D.int)] /\ Q r cs1
  | _ => False
end Sp
set_option autoImplicit true
namespace Sp
open PySem PySem.Spec PyProof.Rows L2
def isSet : Expr -> Bool
  | .Set _ _ _ => true
  | _ => false
theorem bH {e : Expr} (h : isSet e = false) (op : CmpOp) : behindInMarks op e = false := by
  cases e <;> first | rfl | cases h
theorem i5 {e : Expr} (h : isSet e = false) (env : Env) (x : Value) : foldedSetIterable e env x = pure x := by
  cases e <;> first | rfl | cases h
def isSlice : Expr -> Bool
  | .Slice _ _ _ _ => true
  | _ => false
theorem hJ {e : Expr} (h : isSlice e = false) : PlainIx e := fun o i => by
  cases e <;> first | rfl | cases h
def Bi.nm : Bi -> String
  | .len => "len" | .abs => "abs" | .sum => "sum" | .max => "max" | .min => "min" | .max2 => "max" | .min2 => "min"
  | .all => "all" | .any => "any" | .int => "int" | .str => "str" | .bool => "bool" | .repr => "repr" | .tuple => "tuple" | .list => "list" | .sorted => "sorted" | .dictK => "dict" | .dictT => "dict"
section
variable {X : Cx} {e x y z : Expr} {f g h : SE} {a b c : CE} {pos : Pos}
def cmpW (o : COp) (a b : CE) (f g : SE) : SE := fun L cs Q => opd a f L cs fun u cs1 => opd b g L cs1 fun v cs2 => cmpK o (view cs2 u) (view cs2 v) fun t => Q (.bl t) cs2
theorem kBa (hu : X.A.units + 64 < cLine) (o : COp) (hf : SEm f) (hg : SEm g) (ha : PE X x (RO X.K a f)) (hb : PE X y (RO X.K b g)) (hs : isSet y = false) :
    PE X (.Compare x [o.of] [y] pos) (RR X.K (cmpW o a b f g)) :=
  (pe_cmpR (cC hu o) ha hb (bH hs _)).imp fun σ H Q ⟨p,L,cs,R,q⟩ => ⟨p,L,cs,R,aB hf (fun u cs1 h1 v1 p1 H1 R1 x1 r1 => ⟨p1,L,cs1,R1,aB hg (fun w cs2 h2 v2 p2 H2 R2 x2 r2 =>
    ⟨p2,view cs2 u,view cs2 w,R2.view (r1.mv x2),R2.view r2,aC (fun z hz => hz _ p2 H2 H2 R2 (x1.trans x2) Res.bl) h2⟩) h1⟩) q⟩
theorem iYa (hu : X.A.units + 64 < cLine) (hc : c.peeks = none) (o : COp) (hf : SEm f) (hg : SEm g) (ha : PE X x (RO X.K a f)) (hb : PE X y (RO X.K b g)) (hs : isSet y = false) :
    PT X (.Compare x [o.of] [y] pos) (RB X.K (tst c (cmpW o a b f g))) :=
  (pt_cmpR (cC hu o) ha hb (bH hs _)).imp fun σ H Q ⟨p,L,cs,R,q⟩ => ⟨p,L,cs,R,by
    unfold tst at q
    rw [aT hc] at q
    exact aB hf (fun u cs1 h1 v1 p1 H1 R1 x1 r1 => ⟨p1,L,cs1,R1,aB hg (fun w cs2 h2 v2 p2 H2 R2 x2 r2 =>
      ⟨p2,view cs2 u,view cs2 w,R2.view (r1.mv x2),R2.view r2,aC (fun z hz => ⟨z,rfl,hz.2 p2 H2 R2 (x1.trans x2)⟩) h2⟩) h1⟩) q⟩
def chainW (o o' : COp) (f g h : SE) : SE := fun L cs Q => f L cs fun x cs1 => g L cs1 fun y cs2 => cmpK o x y fun t => match t with
  | true => h L cs2 fun z cs3 => cmpK o' y z fun t2 => Q (.bl t2) cs3
  | false => Q (.bl false) cs2
theorem kW (hu : X.A.units + 64 < cLine) (o o' : COp) (hf : SEm f) (hg : SEm g) (hh : SEm h) {σ : L2.St} {H : Hp} {Q : V -> Hp -> Prop} :
    (∃ p L cs,Rl X.K p σ H L cs /\ chainW o o' f g h L cs fun d cs' => ∀ t,d = .bl t -> ∀ p1 H1,Rl X.K p1 σ H1 L cs' -> ExtE p p1 H H1 -> Q (.bl t) H1) ->
    tChain (rC X.K o) (rC X.K o') (RE X.K f) (RE X.K g) (RE X.K h) σ H Q := fun ⟨p,L,cs,R,q⟩ =>
  ⟨p,L,cs,R,hf _ _ _ _ (fun u cs1 h1 v1 p1 H1 R1 x1 r1 => ⟨p1,L,cs1,R1,hg _ _ _ _ (fun w cs2 h2 v2 p2 H2 R2 x2 r2 =>
    ⟨p2,u,w,(r1.mv x2.ext.mv).seen,r2.seen,aC (fun t q => ⟨t,rfl,by
      cases t with
      | false => exact (if_neg (by decide)).mpr (q false rfl p2 H2 R2 (x1.trans x2))
      | true => exact (if_pos rfl).mpr ⟨p2,L,cs2,R2,hh _ _ _ _ (fun s cs3 q v3 p3 H3 R3 x3 r3 => ⟨p3,w,s,(r2.mv x3.ext.mv).seen,r3.seen,aC (fun t2 q => q t2 rfl p3 H3 R3 ((x1.trans x2).trans x3)) q⟩) q⟩⟩) h2⟩) h1⟩) q⟩
theorem i9a (hu : X.A.units + 64 < cLine) (o o' : COp) (hf : SEm f) (hg : SEm g) (hh : SEm h) (ha : PE X x (RE X.K f)) (hb : PE X y (RE X.K g)) (hc : PE X z (RE X.K h)) (hs : isSet z = false) :
    PE X (.Compare x [o.of,o'.of] [y,z] pos) (RE X.K (chainW o o' f g h)) :=
  (pe_chain (cC hu o) (cC hu o') ha hb hc (bH hs _)).imp fun σ H Q ⟨p,L,cs,R,q⟩ => kW hu o o' hf hg hh ⟨p,L,cs,R,hf _ _ _ _ (fun u cs1 q => hg _ _ _ _ (fun w cs2 q => aC (fun t q => by
    cases t with
    | false => exact fun t e p1 H1 R1 x1 => by cases e; exact q _ p1 H1 R1 x1 (.bl _)
    | true => exact hh _ _ _ _ (fun s cs3 q => aC (fun t2 q => fun t e p1 H1 R1 x1 => by cases e; exact q _ p1 H1 R1 x1 (.bl _)) q) q) q) q) q⟩
theorem iXa (hu : X.A.units + 64 < cLine) (hp : c.peeks = none) (o o' : COp) (hf : SEm f) (hg : SEm g) (hh : SEm h) (ha : PE X x (RE X.K f)) (hb : PE X y (RE X.K g)) (hc : PE X z (RE X.K h)) (hs : isSet z = false) :
    PT X (.Compare x [o.of,o'.of] [y,z] pos) (RB X.K (tst c (chainW o o' f g h))) :=
  (pt_chain (cC hu o) (cC hu o') ha hb hc (bH hs _)).imp fun σ H Q ⟨p,L,cs,R,q⟩ => kW hu o o' hf hg hh ⟨p,L,cs,R,by
    unfold tst at q
    rw [aT hp] at q
    exact hf _ _ _ _ (fun u cs1 q => hg _ _ _ _ (fun w cs2 q => aC (fun t q => by
    cases t with
    | false => exact fun t e p1 H1 R1 x1 => by cases e; exact ⟨_,rfl,q.2 p1 H1 R1 x1⟩
    | true => exact hh _ _ _ _ (fun s cs3 q => aC (fun t2 q => fun t e p1 H1 R1 x1 => by cases e; exact ⟨_,rfl,q.2 p1 H1 R1 x1⟩) q) q) q) q) q⟩
theorem nW : PA X [] (RAs X.K fun _ cs Q => Q [] cs) := pa_nil.imp fun σ H Q ⟨p,L,cs,R,q⟩ => q [] p H R .refl .nil
theorem iTa : PA X [] (RAo X.K fun _ cs Q => Q [] cs) := pa_nil.imp fun σ H Q ⟨p,L,cs,R,q⟩ => q [] p H R .refl .nil
def SLm {α : Type} (F : Loc -> Cells -> (List α -> Cells -> Prop) -> Prop) : Prop := ∀ L cs (Q Q' : List α -> Cells -> Prop),(∀ d c,Q d c -> Q' d c) -> F L cs Q -> F L cs Q'
theorem iUa {es : List Expr} {F : Loc -> Cells -> (List D -> Cells -> Prop) -> Prop} (hf : SEm f) (hF : SLm F) (h : PE X x (RE X.K f)) (hr : PA X es (RAs X.K F)) (hs : starred x = false) :
    PA X (x :: es) (RAs X.K fun L cs Q => f L cs fun d cs1 => F L cs1 fun ds cs2 => Q (d :: ds) cs2) :=
  (pa_cons h hr (aD hs _ _)).imp fun σ H Q ⟨p,L,cs,R,q⟩ => ⟨p,L,cs,R,hf _ _ _ _ (fun d cs1 q v p1 H1 R1 x1 r1 => ⟨p1,L,cs1,R1,hF _ _ _ _ (fun ds cs2 q vs p2 H2 R2 x2 r2 => q _ p2 H2 R2 (x1.trans x2) (.cons (r1.mv x2.ext.mv) r2)) q⟩) q⟩
theorem iSa {es : List Expr} {F : Loc -> Cells -> (List Opd -> Cells -> Prop) -> Prop} (hf : SEm f) (hF : SLm F) (h : PE X x (RO X.K a f)) (hr : PA X es (RAo X.K F)) (hs : starred x = false) :
    PA X (x :: es) (RAo X.K fun L cs Q => opd a f L cs fun d cs1 => F L cs1 fun ds cs2 => Q (d :: ds) cs2) :=
  (pa_cons h hr (aD hs _ _)).imp fun σ H Q ⟨p,L,cs,R,q⟩ => ⟨p,L,cs,R,aB hf (fun d cs1 q v p1 H1 R1 x1 r1 => ⟨p1,L,cs1,R1,hF _ _ _ _ (fun ds cs2 q vs p2 H2 R2 x2 r2 => q _ p2 H2 R2 (x1.trans x2) (.cons (r1.mv x2) r2)) q⟩) q⟩
theorem j9a {es : List Expr} {F : Loc -> Cells -> (List Opd -> Cells -> Prop) -> Prop} {nm : Str} {p0 : Pos} (hc : X.calm = true) (hgd : X.A.guards = some []) (hu : X.A.units + 64 < cLine) (f : Bi) (hF : SLm F) (he : nm = (f.nm : Str)) (hg : Gl X nm) (hm : X.mg nm = none) (ha : PA X (x :: es) (RAo X.K F)) (hs : starred x = false) (hs2 : es.all (fun e => !starred e) = true) :
    PE X (.Call (.Name nm p0) (x :: es) [] pos) (RR X.K fun L cs Q => F L cs fun us cs1 => biK f (us.map (view cs1)) fun d => Q d cs1) := by
  have hpl : (backTo pos (starEach es X.env)).any (·.1) = false := by
    clear ha
    induction es with
    | nil => rfl
    | cons y r ih =>
      rw [List.all_cons,Bool.and_eq_true] at hs2
      rw [aD (by simpa using hs2.1)]
      show (_ || _) = false
      rw [Bool.or_eq_false_iff]
      exact ⟨rfl,ih hs2.2⟩
  have key : PE X (.Call (.Name nm p0) (x :: es) [] pos) (tCB (rBi X.K f) (RAo X.K F)) := by
    have hb := hNa (X := X) hc hgd hu f
    subst he
    cases f <;> first
      | exact pe_callB hb hg hm rfl ha (by decide) (by decide) (aD hs _ _) hpl
      | exact pe_callTy hb hg hm rfl ha (by decide) (by decide) (aD hs _ _) hpl
  exact key.imp fun σ H Q ⟨p,L,cs,R,q⟩ => ⟨p,L,cs,R,hF _ _ _ _ (fun us cs1 w vs p1 H1 R1 x1 r1 => ⟨p1,us.map (view cs1),R1.nt,r1.seens R1,aC (fun z hz v H' hr => hz v p1 H1 H' R1 x1 hr) w⟩) q⟩
theorem b0 {es : List Expr} {env : Env} (hs2 : es.all (fun e => !starred e) = true) : (backTo pos (starEach es env)).any (·.1) = false := by
  induction es with
  | nil => rfl
  | cons y r ih =>
    rw [List.all_cons,Bool.and_eq_true] at hs2
    rw [aD (by simpa using hs2.1)]
    show (_ || _) = false
    rw [Bool.or_eq_false_iff]
    exact ⟨rfl,ih hs2.2⟩
theorem i7a {G : SF} {es : List Expr} {F : Loc -> Cells -> (List D -> Cells -> Prop) -> Prop} {nm : Str} {p0 : Pos} {k : Nat} {fa : Addr} {fd : FuncData} {ps : List Str} (hF : SLm F) (hG : SFm G)
    (Fn : FnG X.prog X.w X.K X.mg X.base k fa fd ps (spG X.K G nm)) (hr : Room k X.A) (hgd : X.A.guards = some []) (hg : Gl X nm) (hm : X.mg nm = some (.ref fa)) (hk : PySem.W.keepIn X.K (.ref fa) = true) (hb : Binds X.K fd ps [])
    (hdb : (nm == ("__debug__" : Str)) = false) (hlen : ∀ L cs Q,F L cs Q -> F L cs fun ds cs' => ds.length = ps.length /\ Q ds cs')
    (ha : PA X (x :: es) (RAs X.K F)) (hs : starred x = false) (hs2 : es.all (fun e => !starred e) = true) :
    PE X (.Call (.Name nm p0) (x :: es) [] pos) (RE X.K fun L cs Q => F L cs fun ds cs1 => G nm ds cs1 Q) := by
  have key : PE X (.Call (.Name nm p0) (x :: es) [] pos) (fun σ H Q => RAs X.K F σ H fun vs H1 => vs.length = ps.length /\ spG X.K G nm vs H1 Q) := by
    refine ⟨fun pins s σ H Q I h => ?_⟩
    refine wpAny_Call_Name_kw (ld_glob I hg hm ?_ hdb)
    refine PySem.W.callWith_K (h₀ := X.base) I.ok.mod.kin hk (thn (ha.run pos pins s σ H _ I h) fun us s1 ⟨vs,H1,I1,r,hl,q⟩ => ⟨I1.kIn,?_⟩) (aD hs _ _) (b0 hs2)
    exact eE Fn hr hgd hb hl I1 r q
  refine key.imp fun σ H Q ⟨p,L,cs,R,q⟩ => ⟨p,L,cs,R,hF _ _ _ _ (fun ds cs1 ⟨hl,w⟩ vs p1 H1 R1 x1 r1 => ⟨r1.len.trans hl,?_⟩) (hlen _ _ _ q)⟩
  obtain ⟨ok1,C1,rs1⟩ := R1.in
  refine ⟨p1.in,ds,cs1,rfl,ok1,C1,rs1,r1.mv Mv.in,hG _ _ _ _ _ (fun d cs' w v p' H' ho ok' C' x' r' => ?_) w⟩
  obtain ⟨R2,x2,m2⟩ := R1.out ho ok' C' x'
  exact w v _ H' R2 (x1.trans x2) (r'.mv m2)
theorem i8a {G : SF} {nm : Str} {p0 : Pos} {k : Nat} {fa : Addr} {fd : FuncData} {ps : List Str} (hG : SFm G)
    (Fn : FnG X.prog X.w X.K X.mg X.base k fa fd ps (spG X.K G nm)) (hr : Room k X.A) (hgd : X.A.guards = some []) (hg : Gl X nm) (hm : X.mg nm = some (.ref fa)) (hk : PySem.W.keepIn X.K (.ref fa) = true) (hb : Binds X.K fd ps [])
    (hdb : (nm == ("__debug__" : Str)) = false) (hl : ps.length = 0) :
    PE X (.Call (.Name nm p0) [] [] pos) (RE X.K fun L cs Q => G nm [] cs Q) := by
  have key : PE X (.Call (.Name nm p0) [] [] pos) (fun σ H Q => spG X.K G nm [] H Q) := by
    refine ⟨fun pins s σ H Q I h => ?_⟩
    refine wpAny_Call_Name_kw (ld_glob I hg hm ?_ hdb)
    exact PySem.W.callWith_K0 I.kIn hk (eE (us := []) (vs := []) Fn hr hgd hb hl.symm I .nil h)
  refine key.imp fun σ H Q ⟨p,L,cs,R1,w⟩ => ?_
  obtain ⟨ok1,C1,rs1⟩ := R1.in
  refine ⟨p.in,[],cs,rfl,ok1,C1,rs1,.nil,hG _ _ _ _ _ (fun d cs' w v p' H' ho ok' C' x' r' => ?_) w⟩
  obtain ⟨R2,x2,m2⟩ := R1.out ho ok' C' x'
  exact w v _ H' R2 x2 (r'.mv m2)
theorem jKa {G : SF} {nm : Str} {p0 : Pos} {k : Nat} {fa : Addr} {fd : FuncData} {ps : List Str} (hf : SEm f) (hG : SFm G)
    (Fn : FnG X.prog X.w X.K X.mg X.base k fa fd ps (spG X.K G nm)) (hr : Room k X.A) (hgd : X.A.guards = some []) (hg : Gl X nm) (hm : X.mg nm = some (.ref fa)) (hk : PySem.W.keepIn X.K (.ref fa) = true) (hb : Binds X.K fd ps [])
    (hdb : (nm == ("__debug__" : Str)) = false) (hl : ps.length = 1) (ha : PE X x (RO X.K c f)) (hs : starred x = false) :
    PE X (.Call (.Name nm p0) [x] [] pos) (RE X.K (lendW G nm c f)) := by
  have key : PE X (.Call (.Name nm p0) [x] [] pos) (fun σ H Q => RO X.K c f σ H fun v H1 => [v].length = ps.length /\ spG X.K G nm [v] H1 Q) := by
    refine ⟨fun pins s σ H Q I h => ?_⟩
    refine wpAny_Call_Name_kw (ld_glob I hg hm ?_ hdb)
    refine PySem.W.callWith_K (h₀ := X.base) I.ok.mod.kin hk (thn ((pa_cons ha pa_nil (aD hs _ _)).run pos pins s σ H (fun vs H1 => vs.length = ps.length /\ spG X.K G nm vs H1 Q) I h) fun us s1 ⟨vs,H1,I1,r,hl,q⟩ => ⟨I1.kIn,?_⟩) (aD hs _ _) (b0 rfl)
    exact eE Fn hr hgd hb hl I1 r q
  refine key.imp fun σ H Q ⟨p,L,cs,R,q⟩ => ⟨p,L,cs,R,aB hf (fun u cs1 w v p1 H1 R1 x1 r1 => ⟨hl.symm,?_⟩) q⟩
  cases u with
  | v d => exact w.elim
  | o i d =>
    obtain ⟨ns,rfl,w⟩ := w
    obtain ⟨a,rfl,ho,hL⟩ := r1
    obtain ⟨ok1,C1,rs1,ra,_⟩ := R1.lend ho hL
    refine ⟨p1.lend i a,_,_,rfl,ok1,C1,rs1,.cons ra .nil,hG _ _ _ _ _ (fun d cs' ⟨q1,q2,q3⟩ v p' H' ho' ok' C' x' r' => ?_) w⟩
    subst q2
    obtain ⟨R2,x2,r2⟩ := R1.back ho hL ok' C' x' r' q1
    exact q3 v p1 H' R2 (x1.trans x2) r2
theorem gH {K : PySem.W.Frag} {p : Pm} {H : Hp} {vs : List V} {ds : List D} {i : Int} {z : D} (r : Reps K p H vs ds) (h : L2.atI ds i = some z) : ∃ v,L2.atI vs i = some v /\ Rep K p H v z := by
  unfold L2.atI at h ⊢
  rw [r.len]
  cases e : L2.ixN ds.length i with
  | none => rw [e] at h; cases h
  | some j =>
    rw [e] at h
    exact r.get h
def ixW (a : CE) (f g : SE) : SE := fun L cs Q => opd a f L cs fun u cs1 => g L cs1 fun j cs2 => ixK (view cs2 u) j fun d => Q d cs2
theorem e0a (hu : X.A.units + 1 < cLine) : IxR X (fun x y H Q => ∃ a v,x = .ref a /\ DGet H a y (some v) /\ Q v H) := by
  intro value slice pins s σ H x y v u Q I rx ry h hs
  obtain ⟨a,w,rfl,g,q⟩ := h
  cases rx
  have hT : s.TypeIs (.ref a) "dict" := dict_typeIs I g
  unfold subscriptTail
  refine wpAny_bind ?_
  rw [getitemInPython_of_ne hT.not_modules]
  refine wpAny_bind (wpAny_specialOf hT PySem.F.slot_dict_getitem.lookup ?_)
  have fin : wpAny (model X.prog X.w) X.A (subscripted slice false (.ref a) u) (fun r s₃ => wpAny (model X.prog X.w) X.A (letTemporaryGo value (.ref a) r >>= fun _ => pure r) (EP X pins σ Q) X.xe s₃) X.xe s := by
    rw [hs]
    exact wpAny_operating (wpAny_mono (d_getItem (E := X.xe) hu I g ry fun w' s' I' rw' => (⟨_,H,I',rw',q⟩ : EP X pins σ Q w' s')) (fun r s₃ h₃ => wpAny_bind (wpAny_letTemporaryGo (wpAny_pure h₃))) fun _ _ x => x)
  first
    | exact wpAny_pure (wpAny_bind fin)
    | exact wpAny_bind fin
    | (refine wpAny_pure ?_; exact wpAny_bind fin)
theorem jGa (hu : X.A.units + 64 < cLine) (hf : SEm f) (hg : SEm g) (ha : PE X x (RO X.K a f)) (hb : PE X y (RE X.K g)) (hs : isSlice y = false) : PE X (.Subscript x y pos) (RE X.K (ixW a f g)) :=
  (pe_ix ((ix_list.or ix_tup).or (e0a (by omega))) ha hb (hJ hs)).imp fun σ H Q ⟨p,L,cs,R,q⟩ => ⟨p,L,cs,R,aB hf (fun u cs1 h1 v1 p1 H1 R1 x1 r1 => ⟨p1,L,cs1,R1,hg _ _ _ _ (fun w cs2 h2 v2 p2 H2 R2 x2 r2 => by
    have s1 := R2.view (r1.mv x2)
    generalize view cs2 u = d at s1 h2
    cases hdc : isDct d with
    | true =>
      have h2 : ok (ixV d w) _ := h2
      cases e : ixV d w with
      | none => rw [e] at h2; exact h2.elim
      | some cz =>
        obtain ⟨c,z⟩ := cz
        rw [e] at h2
        obtain ⟨e1,rfl⟩ := eZa hdc e
        obtain ⟨a,r,rfl,hg,hr⟩ := dH r2 s1 e1
        obtain ⟨w',rfl,rw'⟩ := hr.of
        exact .inr ⟨a,w',rfl,hg,h2.2 w' p2 H2 R2 (x1.trans x2) rw'⟩
    | false =>
    cases w with
    | int i =>
      cases r2
      cases d with
      | lst ds =>
        obtain ⟨c,vs,rfl,hs,rs⟩ := s1
        have h2 : ok (opt (L2.atI ds i)) _ := h2
        cases e : L2.atI ds i with
        | none => rw [e] at h2; exact h2.elim
        | some z =>
          rw [e] at h2
          obtain ⟨w,ew,rw'⟩ := gH rs e
          exact .inl <| .inl ⟨c,vs,i,w,rfl,rfl,hs.sq,ew,h2.2 w p2 H2 R2 (x1.trans x2) rw'⟩
      | tup ds =>
        obtain ⟨c,vs,rfl,hs,rs⟩ := s1.tup
        have h2 : ok (opt (L2.atI ds i)) _ := h2
        cases e : L2.atI ds i with
        | none => rw [e] at h2; exact h2.elim
        | some z =>
          rw [e] at h2
          obtain ⟨w,ew,rw'⟩ := gH rs e
          exact .inl <| .inr ⟨c,vs,i,w,rfl,rfl,hs,ew,h2.2 w p2 H2 R2 (x1.trans x2) rw'⟩
      | ptup ds =>
        obtain ⟨c,vs,rfl,hs,_,rs⟩ := Rep.ptupS s1
        have h2 : ok (opt (L2.atI ds i)) _ := h2
        cases e : L2.atI ds i with
        | none => rw [e] at h2; exact h2.elim
        | some z =>
          rw [e] at h2
          obtain ⟨w,ew,rw'⟩ := gH rs e
          exact .inl <| .inr ⟨c,vs,i,w,rfl,rfl,hs,ew,h2.2 w p2 H2 R2 (x1.trans x2) rw'⟩
      | vtup ds =>
        obtain ⟨c,vs,rfl,hs,_,rs⟩ := Rep.vtupS s1
        have h2 : ok (opt (L2.atI ds i)) _ := h2
        cases e : L2.atI ds i with
        | none => rw [e] at h2; exact h2.elim
        | some z =>
          rw [e] at h2
          obtain ⟨w,ew,rw'⟩ := gH rs e
          exact .inl <| .inr ⟨c,vs,i,w,rfl,rfl,hs,ew,h2.2 w p2 H2 R2 (x1.trans x2) rw'⟩
      | dct _ => exact (nomatch (show true = false from hdc))
      | dctT _ => exact (nomatch (show true = false from hdc))
      | _ => exact (show False from h2).elim
    | _ => cases d <;> first | exact (show False from h2).elim | exact (nomatch (show true = false from hdc))) h1⟩) q⟩
theorem kCa (t : Bool) : PE X (.Dict [] [] pos) (RR X.K fun _ cs Q => match t with
    | true => Q (.dctT []) cs
    | false => Q (.dct []) cs) := by
  cases t with
  | true => exact pe_dnewT.imp fun σ H Q ⟨p,L,cs,R,q⟩ a ha => q _ p H _ R .refl ⟨a,[],rfl,ha,rfl,.nil⟩
  | false => exact pe_dnewK.imp fun σ H Q ⟨p,L,cs,R,q⟩ a ha => q _ p H _ R .refl ⟨a,[],rfl,ha,rfl,.nil⟩
def dgetW (a : CE) (f g h : SE) : SE := fun L cs Q => opd a f L cs fun u cs1 => isDct (view cs1 u) = true /\ g L cs1 fun kd cs2 => h L cs2 fun z cs3 => match dAt (view cs3 u) kd with
  | some o => Q (o.getD z) cs3
  | none => False
theorem jAa {apos cpos : Pos} (hu : X.A.units + 64 < cLine) (hf : SEm f) (hg : SEm g) (hh : SEm h) (ha : PE X x (RO X.K a f)) (hb : PE X y (RE X.K g)) (hc : PE X z (RE X.K h)) (m : M2 X x "get" apos y z cpos) :
    PE X (.Call (.Attribute x "get" apos) [y,z] [] cpos) (RE X.K (dgetW a f g h)) :=
  (pe_dget2 (by omega) ha hb hc m).imp fun σ H Q ⟨p,L,cs,R,q⟩ => ⟨p,L,cs,R,aB hf (fun u cs1 ⟨hd,h1⟩ v1 p1 H1 R1 x1 r1 => by
    obtain ⟨aa,e1,hI⟩ := jX (R1.view r1) hd
    refine ⟨aa,e1,hI,p1,L,cs1,R1,hg _ _ _ _ (fun w cs2 h2 v2 p2 H2 R2 x2 r2 => ⟨p2,L,cs2,R2,hh _ _ _ _ (fun zz cs3 h3 v3 p3 H3 R3 x3 r3 => ?_) h2⟩) h1⟩
    cases e : dAt (view cs3 u) w with
    | none => rw [e] at h3; exact h3.elim
    | some o =>
      rw [e] at h3
      obtain ⟨a2,r,e2,hg2,hr⟩ := dH (r2.mv x3.ext.mv) (R3.view (r1.mv (x2.trans x3))) e
      rw [e1] at e2
      cases e2
      exact ⟨r,hg2,h3 _ p3 H3 R3 (x1.trans (x2.trans x3)) (hr.getD r3)⟩) q⟩
theorem j7a : PO X none (RP X.K fun _ cs Q => Q none cs) := ⟨fun pins s σ H Q I ⟨p,L,cs,R,q⟩ => po_none.run pins s σ H Q I (q p H R .refl)⟩
theorem j8a (hf : SEm f) (h : PE X x (RE X.K f)) : PO X (some x) (RP X.K fun L cs Q => f L cs fun d cs1 => match d with
    | .int i => Q (some i) cs1
    | _ => False) := ⟨fun pins s σ H Q I ⟨p,L,cs,R,q⟩ => (po_some h).run pins s σ H Q I ⟨p,L,cs,R,hf _ _ _ _ (fun d cs1 w v p1 H1 R1 x1 r1 => by
  cases d with
  | int i =>
    cases r1
    exact ⟨i,rfl,w p1 H1 R1 x1⟩
  | _ => exact w.elim) q⟩⟩
def SOm (F : Loc -> Cells -> (Option Int -> Cells -> Prop) -> Prop) : Prop := ∀ L cs (Q Q' : Option Int -> Cells -> Prop),(∀ d c,Q d c -> Q' d c) -> F L cs Q -> F L cs Q'
theorem gP {K : PySem.W.Frag} {p : Pm} {H : Hp} {vs : List V} {ds : List D} {lo hi : Option Int} (r : Reps K p H vs ds) : Reps K p H (cutV vs lo hi) (cutD ds lo hi) := by
  unfold cutV cutD
  rw [r.len]
  exact (r.drop _).take _
def slW (a : CE) (f : SE) (F G : Loc -> Cells -> (Option Int -> Cells -> Prop) -> Prop) : SE := fun L cs Q => opd a f L cs fun u cs1 => F L cs1 fun l cs2 => G L cs2 fun h cs3 => slK (view cs3 u) l h fun d => Q d cs3
theorem iZ {ds : List D} {lo hi : Option Int} (h : HT.sIx ds.length 0 lo = 0 /\ HT.sIx ds.length ds.length hi = ds.length) : cutD ds lo hi = ds := by
  unfold cutD
  rw [h.1,h.2]
  simp
theorem kIa {F G : Loc -> Cells -> (Option Int -> Cells -> Prop) -> Prop} {lo hi : Option Expr} {p2 : Pos} (hf : SEm f) (hF : SOm F) (hG : SOm G) (ha : PE X x (RO X.K a f)) (hl : PO X lo (RP X.K F)) (hh : PO X hi (RP X.K G)) :
    PE X (.Subscript x (.Slice lo hi none p2) pos) (RR X.K (slW a f F G)) :=
  (pe_slice ((sl_list.or sl_tupA).or sl_str) ha hl hh).imp fun σ H Q ⟨p,L,cs,R,q⟩ => ⟨p,L,cs,R,aB hf (fun u cs1 h1 v1 p1 H1 R1 x1 r1 => ⟨p1,L,cs1,R1,hF _ _ _ _ (fun l cs2 h2 p2 H2 R2 x2 => ⟨p2,L,cs2,R2,hG _ _ _ _ (fun h cs3 h3 p3 H3 R3 x3 => by
    have x13 := x1.trans (x2.trans x3)
    have s1 := R3.view (r1.mv (x2.trans x3))
    generalize view cs3 u = d at s1 h3
    cases d with
    | lst ds =>
      obtain ⟨c,vs,rfl,hs,rs⟩ := s1
      exact .inl (.inl ⟨c,vs,rfl,hs.sq,fun a ha => h3.2 _ p3 H3 _ R3 x13 ⟨a,_,rfl,ha,rfl,gP rs⟩⟩)
    | tup ds =>
      have s0 : Rep X.K p3 H3 v1 (.tup ds) := s1
      obtain ⟨c,vs,rfl,hs,rs⟩ := s1.tup
      refine .inl (.inr ⟨c,vs,rfl,hs,fun hw => h3.2 _ p3 H3 H3 R3 x13 (.inr ⟨rfl,?_⟩),fun _ a ha => h3.2 _ p3 H3 _ R3 x13 (.inl ⟨a,_,rfl,ha,rfl,gP rs⟩)⟩)
      rw [rs.len] at hw
      rw [iZ hw]
      exact s0
    | ptup ds =>
      cases (show Rep X.K p3 H3 v1 (.ptup ds) from s1) with
      | @ptup c o vs _ hf hd hn rs =>
        refine .inl (.inr ⟨c,vs,rfl,.inl (.inr ⟨o,hf⟩),fun hw => h3.2 _ p3 H3 H3 R3 x13 (.inr ⟨rfl,?_⟩),fun _ a ha => h3.2 _ p3 H3 _ R3 x13 (.inl ⟨a,_,rfl,ha,rfl,gP rs⟩)⟩)
        rw [rs.len] at hw
        rw [iZ hw]
        exact .vtup (.inr ⟨o,hf⟩) hn rs
    | vtup ds =>
      cases (show Rep X.K p3 H3 v1 (.vtup ds) from s1) with
      | @vtup c vs _ hf hn rs =>
        refine .inl (.inr ⟨c,vs,rfl,.inl hf,fun hw => h3.2 _ p3 H3 H3 R3 x13 (.inr ⟨rfl,?_⟩),fun _ a ha => h3.2 _ p3 H3 _ R3 x13 (.inl ⟨a,_,rfl,ha,rfl,gP rs⟩)⟩)
        rw [rs.len] at hw
        rw [iZ hw]
        exact .vtup hf hn rs
    | str z =>
      obtain rfl := s1.str
      exact .inr ⟨z,rfl,h3.1,h3.2 _ p3 H3 H3 R3 x13 .str⟩
    | _ => exact (show False from h3).elim) h2⟩) h1⟩) q⟩
theorem jW {es : List Expr} {k : Nat} {F : Loc -> Cells -> (List D -> Cells -> Prop) -> Prop} (hF : SLm F) (ha : PA X es (RAs X.K F)) : PE X (.Tuple es k pos) (RR X.K fun L cs Q => F L cs fun ds cs1 => ds.length <= sizeLine /\ Q (.tup ds) cs1) :=
  (pe_tup ha).imp fun σ H Q ⟨p,L,cs,R,q⟩ => ⟨p,L,cs,R,hF _ _ _ _ (fun ds cs1 w vs p1 H1 R1 x1 r1 => ⟨by rw [r1.len]; exact w.1,fun a ha => w.2 _ p1 H1 _ R1 x1 (.inl ⟨a,vs,rfl,ha,rfl,r1⟩)⟩) q⟩
theorem kDa {es : List Expr} {F : Loc -> Cells -> (List D -> Cells -> Prop) -> Prop} (hF : SLm F) (ha : PA X es (RAs X.K F)) : PE X (.List es pos) (RR X.K fun L cs Q => F L cs fun ds cs1 => ds.length <= sizeLine /\ Q (.lst ds) cs1) :=
  (pe_lst ha).imp fun σ H Q ⟨p,L,cs,R,q⟩ => ⟨p,L,cs,R,hF _ _ _ _ (fun ds cs1 w vs p1 H1 R1 x1 r1 => ⟨by rw [r1.len]; exact w.1,fun a ha => w.2 _ p1 H1 _ R1 x1 ⟨a,vs,rfl,ha,rfl,r1⟩⟩) q⟩
theorem Rl.toCell {K : PySem.W.Frag} {p : Pm} {σ : L2.St} {H : Hp} {L : Loc} {cs : Cells} {a : Addr} {cl : Cell} (R : Rl K (p.with a) σ H L cs) (hM : ¬ p.M a) (hC : CellOk K (p.with a) H a cl) :
    Rl K { p with cell := p.cell ++ [a] } σ H L (cs ++ [cl]) /\ Mv (p.with a) { p with cell := p.cell ++ [a] } H H := by
  have m : Mv (p.with a) { p with cell := p.cell ++ [a] } H H := by
    refine ⟨fun b u e n => ⟨e,?_⟩,fun n b e => ?_⟩
    · rintro (q | q | q)
      · rcases List.mem_append.mp q with q | q
        · exact n (.inl q)
        · exact n (.inr (.inr (.inl (List.mem_singleton.mp q))))
      · exact n (.inr (.inl q))
      · exact n (.inr (.inr (.inr q)))
    · have e : p.cell[n]? = some b := e
      show (p.cell ++ [a])[n]? = some b
      rw [List.getElem?_append_left (List.getElem?_eq_some_iff.mp e).1]
      exact e
  refine ⟨⟨⟨?_,R.ok.inj,fun i b e hm => ?_,fun b e hm => ?_,fun b e i => R.ok.ro b (.inr e) i⟩,R.slen,fun i s e => ?_,R.ownL,⟨?_,fun n c b e1 e2 => ?_⟩,fun b e => R.rsv b (.inr e)⟩,m⟩
  · exact List.nodup_append.mpr ⟨R.ok.nd,by simp,fun x hx y hy e => hM (.inl (by rw [List.mem_singleton.mp hy] at e; rw [<- e]; exact hx))⟩
  · rcases List.mem_append.mp hm with q | q
    · exact R.ok.oc i b e q
    · exact hM (.inr (.inl ⟨i,by rw [<- List.mem_singleton.mp q]; exact e⟩))
  · rcases List.mem_append.mp hm with q | q
    · exact R.ok.rc b (.inr e) q
    · exact hM (.inr (.inr (by rw [<- List.mem_singleton.mp q]; exact e)))
  · have q := R.slot i s e
    cases s with
    | no => trivial
    | val d =>
      obtain ⟨v,e1,r⟩ := q
      exact ⟨v,e1,r.mv m⟩
    | own d =>
      obtain ⟨b,e1,e2,c⟩ := q
      exact ⟨b,e1,e2,c.mv m rfl⟩
  · show (p.cell ++ [a]).length = (cs ++ [_]).length
    have := R.cells.len
    have : p.cell.length = cs.length := this
    rw [List.length_append,List.length_append,this]
    rfl
  · have hlen : p.cell.length = cs.length := R.cells.len
    have e2 : (p.cell ++ [a])[n]? = some b := e2
    by_cases hlt : n < cs.length
    · rw [List.getElem?_append_left hlt] at e1
      rw [List.getElem?_append_left (by rw [hlen]; exact hlt)] at e2
      exact (R.cells.at_ n c b e1 e2).mv m rfl
    · have hn0 : n = cs.length := by
        have := (List.getElem?_eq_some_iff.mp e1).1
        rw [List.length_append] at this
        simp at this
        omega
      subst hn0
      rw [List.getElem?_append_right (Nat.le_refl _),Nat.sub_self] at e1
      rw [List.getElem?_append_right (by rw [hlen]; exact Nat.le_refl _),hlen,Nat.sub_self] at e2
      cases e1
      cases e2
      exact hC.mv m rfl
theorem ExtE.toCell {K : PySem.W.Frag} {p p' : Pm} {H H' : Hp} {a : Addr} (x : ExtE p p' H H') (hn : H a = none) {P : Prop} (_ : P) : ExtE p { p' with cell := p'.cell ++ [a] } H H' := by
  obtain ⟨more,e,hm⟩ := x.ext.cell
  refine ⟨⟨⟨more ++ [a],by show p'.cell ++ [a] = _; rw [e,List.append_assoc],fun b hb => ?_⟩,x.ext.keep,x.ext.ownN,x.ext.rsv,x.ext.dom⟩,x.own,x.keepO⟩
  rcases List.mem_append.mp hb with q | q
  · exact hm b q
  · rw [List.mem_singleton.mp q]; exact hn
theorem i5a (hf : SEm f) (ha : PE X x (RF X.K f)) : PE X x (RE X.K fun L cs Q => f L cs fun d cs1 => match d with
    | .lst ds => Q (.ref cs1.length) (cs1 ++ [.seq ds])
    | .dct ds => Q (.ref cs1.length) (cs1 ++ [.map ds])
    | .dctT ds => Q (.ref cs1.length) (cs1 ++ [.mapT ds])
    | _ => False) := ha.imp fun σ H Q ⟨p,L,cs,R,q⟩ => ⟨p,L,cs,R,hf _ _ _ _ (fun d cs1 w => by
  have key : ∀ {c : Cell},isOwn d = true -> (∀ v p' H',Rl X.K p' σ H' L (cs1 ++ [c]) -> ExtE p p' H H' -> Rep X.K p' H' v (.ref cs1.length) -> Q v H') -> (∀ K p H a,Con K p H a d -> CellOk K p H a c) ->
      isOwn d = true /\ ∀ a p' H',Rl X.K (p'.with a) σ H' L cs1 -> ExtE p p' H H' -> H a = none -> ¬ p'.M a -> Con X.K (p'.with a) H' a d -> Q (.ref a) H' := fun {c} ho w hc => by
    refine ⟨ho,fun a p' H' R' x' hn hM hC => ?_⟩
    obtain ⟨R2,x2⟩ := R'.toCell hM (hc _ _ _ _ hC)
    refine w _ _ _ R2 (ExtE.toCell (K := X.K) x' hn x2) (.ref ?_)
    show (p'.cell ++ [a])[cs1.length]? = some a
    rw [<- R'.cells.len,List.getElem?_append_right (Nat.le_refl _),Nat.sub_self]
    rfl
  cases d with
  | lst ds => exact key rfl w fun K p H a h => h
  | dct ds => exact key rfl w fun K p H a h => h
  | dctT ds => exact key rfl w fun K p H a h => h
  | _ => exact w.elim) q⟩
end
end Sp
set_option autoImplicit true
namespace SoS
open PySem PySem.Spec PyProof.Rows L2
section
variable {P : Program} {w : World} {A : Around} {E : Value -> Shared -> Prop} {s : Shared} {a : Addr} {L : List (Addr × List Int)} {es : Array (Int × Value)} {ep : Nat} {t : SetTable}
structure SetB (P : Program) (w : World) (h : Heap) (a : Addr) (L : List (Addr × List Int)) (fs : Array (Int × Value)) (c : Nat) (u : SetTable) : Prop where
  obj : ∃ x,h.get? a = some x /\ x.ExactSet /\ x.data = .set fs c u
  row : fs.toList = rowsOf P w L
  tb : TabOk u (L.map fun q => thash P w q.2)
  ndp : (L.map (·.2)).Nodup
  tps : ∀ q ∈ L,IsT P w h q.2 q.1
  pln : u.plain = true
  ldg : w.params.followText "set-order" = true \/ u.led = true
  rm : L.length * 5 < u.mask * 3
  sml : L.length <= 64
theorem SetB.of (R : SetTR P w s.heap a L es ep t) : SetB P w s.heap a L es ep t := ⟨R.ob,R.rows,R.tab,R.nd,R.tup,R.plain,R.led,R.room,Nat.le_of_lt R.few⟩
theorem SetB.size (R : SetB P w s.heap a L es ep t) : es.size = L.length := by
  rw [<- Array.length_toList,R.row]
  exact List.length_map ..
theorem SetB.fits (R : SetB P w s.heap a L es ep t) : t.fits es.size = true := by
  have e := R.tb.sz
  rw [List.length_map] at e
  have r := R.rm
  rw [R.size]
  unfold SetTable.fits SetTable.fill
  simp only [e,R.tb.dm,beq_self_eq_true,Bool.true_and,decide_eq_true_eq]
  show L.length + 0 <= t.mask
  omega
theorem aQa (R : SetTR P w s.heap a L es ep t) {x : Addr} {k : List Int} (hx : IsT P w s.heap k x) (hu : A.units < cLine) (l63 : L.length = 63) {Q : Bool -> Shared -> Prop}
    (hQ : ∀ b g M fs c u,Heap.SameBut a s.heap g -> SetB P w g a M fs c u -> (k ∈ L.map (·.2) -> M = L) -> (k ∉ L.map (·.2) -> M.Perm ((x,k) :: L)) -> Q b { s with heap := g }) :
    wpAny (model P w) A (setAddHashed a (.ref x) (thash P w k)) Q E s := by
  obtain ⟨ob,hob,ex,dat⟩ := R.ob
  have rm := R.room
  have m127 : t.mask = 127 := by rcases R.tab.mok with e | e | e <;> omega
  have esz := R.size
  unfold setAddHashed
  refine wpAny_holding ?_
  rw [show (100000 : Nat) = 99999 + 1 by rfl,setAddHashedIn_succ a _ _ 99999]
  refine wpAny_bind (wpAny_setState_of hob dat R.fits ?_)
  dsimp only
  refine wp_if_neg (by simp [byScan,Value.scannable]) ?_
  try refine wpAny_bind (wpAny_pure ?_)
  refine wpAny_bind (search_at R hx hu (fun inn => ?_) fun K out free bef => ?_)
  · dsimp only
    exact wpAny_pure (hQ false _ L _ _ _ (Heap.SameBut.refl ..) (SetB.of R) (fun _ => rfl) fun z => (z inn).elim)
  · dsimp only
    refine wpAny_bind (wpAny_setState_of hob dat R.fits ?_)
    dsimp only
    obtain ⟨p1,p2,p3,p4,p5,p6,_,_,p9⟩ := R.tab.put free bef
    have fl : (t.put (way t.mask (thash P w k) K)).1.tooFull = false := by
      unfold SetTable.tooFull
      rw [p9,p4,List.length_map,l63,m127]
      decide
    have pl : (t.put (way t.mask (thash P w k) K)).1.plain = true := p6.trans R.plain
    have rows : (SetTable.insertAt es (t.put (way t.mask (thash P w k) K)).2 (thash P w k,Value.ref x)).toList = rowsOf P w (L.take (t.put (way t.mask (thash P w k) K)).2 ++ (x,k) :: L.drop (t.put (way t.mask (thash P w k) K)).2) := by rw [SetTable.toList_insertAt,rows_put,R.rows]
    rw [<- p1] at p2 p3
    generalize t.put (way t.mask (thash P w k) K) = z at p1 p2 p3 p4 p5 p6 p9 fl pl rows ⊢
    have per := put_perm L z.2 (x,k)
    have ln : (L.take z.2 ++ (x,k) :: L.drop z.2).length = 64 := by rw [per.length_eq,List.length_cons,l63]
    have p3 : TabOk z.1 ((L.take z.2 ++ (x,k) :: L.drop z.2).map fun q => thash P w q.2) := by
      rw [List.map_append,List.map_cons,List.map_take,List.map_drop]
      exact p3
    have nod : ((L.take z.2 ++ (x,k) :: L.drop z.2).map (·.2)).Nodup := (per.map (·.2)).nodup_iff.mpr (List.nodup_cons.mpr ⟨out,R.nd⟩)
    generalize SetTable.insertAt es z.2 (thash P w k,Value.ref x) = gs at rows ⊢
    generalize L.take z.2 ++ (x,k) :: L.drop z.2 = M at per ln p3 nod rows
    have gsz : gs.size = 64 := by rw [<- Array.length_toList,rows,<- ln]; exact List.length_map ..
    have fin : wpAny (model P w) A (storeSet a gs z.1) (fun _ s' => Q true s') E s := by
      refine wpAny_storeSet_of hob dat ?_ (by rw [gsz,sizeLine_eq]; decide)
      have same : Heap.SameBut a s.heap (s.heap.update a (Obj.putSet gs z.1)) := Heap.SameBut.update ..
      refine hQ true _ M gs (ep + 1) z.1 same ⟨⟨_,store_at hob dat,⟨ex.1,ex.2.1,ex.2.2⟩,rfl⟩,rows,p3,nod,fun q hq => ?_,pl,by rw [p5]; exact R.led,by rw [ln,p4,m127]; decide,by omega⟩ (fun inn => (out inn).elim) fun _ => per
      rcases List.mem_cons.mp (per.mem_iff.mp hq) with e | m
      · rw [e]
        exact isT_same hx hob dat same
      · exact isT_same (R.tup q m) hob dat same
    first
      | (refine wpAny_bind ?_; refine wp_if_pos pl ?_; refine hashBy_tup hx ?_)
      | refine wp_if_pos pl (wpAny_bind (hashBy_tup hx ?_))
    simp only [if_true]
    refine wpAny_bind (thn fin fun _ s1 q => ?_)
    refine wp_if_neg (by simp [fl]) ?_
    exact wpAny_pure q
theorem SetB.tr (R : SetB P w s.heap a L es ep t) (h : L.length < 64) : SetTR P w s.heap a L es ep t := ⟨R.obj,R.row,R.tb,R.ndp,R.tps,R.pln,R.ldg,R.rm,h⟩
theorem SetB.stay {g g' : Heap} (R : SetB P w g a L es ep t) (ka : ∀ x,g.get? a = some x -> g'.get? a = some x) (kt : ∀ q ∈ L,IsT P w g' q.2 q.1) : SetB P w g' a L es ep t := by
  obtain ⟨x,hx,r⟩ := R.obj
  exact ⟨⟨x,ka x hx,r⟩,R.row,R.tb,R.ndp,kt,R.pln,R.ldg,R.rm,R.sml⟩
theorem aPa (R : SetB P w s.heap a L es ep t) {x : Addr} {k : List Int} (hx : IsT P w s.heap k x) (hu : A.units < cLine) (l63 : L.length <= 63) {Q : Bool -> Shared -> Prop}
    (hQ : ∀ b g M fs c u,Heap.SameBut a s.heap g -> SetB P w g a M fs c u -> (k ∈ L.map (·.2) -> M = L) -> (k ∉ L.map (·.2) -> M.Perm ((x,k) :: L)) -> Q b { s with heap := g }) :
    wpAny (model P w) A (setAddHashed a (.ref x) (thash P w k)) Q E s := by
  have R0 := R.tr (by omega)
  by_cases h : L.length = 63
  · exact aQa R0 hx hu h hQ
  · exact add_at R0 hx hu (by omega) fun b g M fs c u h1 h2 h3 h4 => hQ b g M fs c u h1 (SetB.of (s := { s with heap := g }) h2) h3 h4
theorem upd_loop {I S : Addr} {fp wr : List Addr} {G : Array GenState -> Array GenState -> Prop} {n : Nat} {Pv : Nat -> Value -> Prop} {St : Nat -> Shared -> Prop} {R : Result -> Shared -> Prop}
    (W : WalksS P w A.in1 I fp wr G n Pv St) (nS : S ∉ fp) (ks : List (Addr × List Int)) (en : n = ks.length) (n64 : n <= 64) (vals : ∀ i v,Pv i v -> ∃ p,ks[i]? = some p /\ v = .ref p.1)
    (g0 : Heap) (tk : ∀ p ∈ ks,IsT P w g0 p.2 p.1) (S0 : g0.get? S = none) (w0 : ∀ b ∈ wr,g0.get? b = none) (hu : A.in1.units < cLine) :
    ∀ (m i : Nat) (s : Shared),i + m = n -> St i s -> (∀ b o,g0.get? b = some o -> s.heap.get? b = some o) -> (∃ L es ep t,SetB P w s.heap S L es ep t /\ Got ks i L) ->
      (∀ s' L es ep t,Moved (S :: wr) G s s' -> SetB P w s'.heap S L es ep t -> Got ks n L -> (∀ b o,g0.get? b = some o -> s'.heap.get? b = some o) -> R (.ok (.ret .none)) s') ->
      codeAny (model P w) A (.builtin "set.update.loop" ⟨[.ref S,.ref I],[]⟩) R s := by
  have nw : S ∉ wr := fun h => nS (W.sub _ h)
  have wide : ∀ b ∈ wr,b ∈ S :: wr := fun b hb => .tail _ hb
  have old : ∀ {s s' : Shared},Moved wr G s s' -> (∀ b o,g0.get? b = some o -> s.heap.get? b = some o) -> ∀ b o,g0.get? b = some o -> s'.heap.get? b = some o := fun mv kp b o e => mv.heap b o (fun hb => nomatch (w0 b hb).symm.trans e) (kp b o e)
  intro m
  induction m with
  | zero =>
    intro i s em st kp ⟨L,es,ep,t,B,got⟩ fin
    obtain rfl : i = n := by omega
    refine codeAny_builtin F.entry_set_update_loop ?_; rw [Around.under_plainId F.plain_set_update_loop _]
    show wpAny _ A.in1 (pyNext (.ref I) >>= _) _ _ _
    refine wpAny_bind (W.done s _ _ st fun s1 mv => ?_)
    have kp1 := old mv kp
    exact wpAny_pure (fin s1 L es ep t (mv.mono wide) (B.stay (fun o e => mv.heap S o nw e) fun q hq => isT_keep (tk q (List.mem_of_mem_take (got.sub q hq))) kp1) got kp1)
  | succ m ih =>
    intro i s em st kp ⟨L,es,ep,t,B,got⟩ fin
    have lt : i < n := by omega
    refine codeAny_builtin F.entry_set_update_loop ?_; rw [Around.under_plainId F.plain_set_update_loop _]
    show wpAny _ A.in1 (pyNext (.ref I) >>= _) _ _ _
    refine wpAny_bind (W.item i s _ _ lt st fun v s1 pv st1 mv => ?_)
    obtain ⟨q,eq,rfl⟩ := vals i v pv
    have kp1 := old mv kp
    have B1 : SetB P w s1.heap S L es ep t := B.stay (fun o e => mv.heap S o nw e) fun r hr => isT_keep (tk r (List.mem_of_mem_take (got.sub r hr))) kp1
    have qt : IsT P w s1.heap q.2 q.1 := isT_keep (tk q (List.mem_of_getElem? eq)) kp1
    show wpAny _ A.in1 (holding [Value.ref q.1] (setAdd S (.ref q.1)) >>= _) _ _ s1
    refine wpAny_bind (wpAny_holding ?_)
    unfold setAdd
    refine wpAny_holding (wpAny_bind (wpAny_pyHash_tuple hu qt ?_))
    refine aPa (s := { s1 with toks := s1.toks + (q.2.length + 1) }) B1 qt hu (by have := got.len; omega) fun b g M fs c u sb B2 c1 c2 => ?_
    have got2 : Got ks (i + 1) M := by
      by_cases c : q.2 ∈ L.map (·.2)
      · rw [c1 c]; exact got.same eq c
      · exact got.more eq (c2 c)
    have kp2 : ∀ b o,g0.get? b = some o -> g.get? b = some o := fun b o e => (sb.2 b (fun z => nomatch (z ▸ S0).symm.trans e)).trans (kp1 b o e)
    refine wpAny_pure ⟨plainId_quiet F.plain_set_update_loop _,ih (i + 1) _ (by omega) (W.frame _ s1 _ _ st1 (Nat.le_add_right _ _) fun b hb o e => (sb.2 b (fun z : b = S => nS (z ▸ hb))).trans e) kp2 ⟨M,fs,c,u,B2,got2⟩ fun s2 L2 es2 ep2 t2 mv2 B3 got3 kp3 => ?_⟩
    exact fin s2 L2 es2 ep2 t2 (Moved.trans W.gtrans ((mv.mono wide).then_heap (Nat.le_add_right _ _) fun b o hb e => (sb.2 b (fun z : b = S => hb (z ▸ List.mem_cons_self))).trans e) mv2) B3 got3 kp3
def newSet (w : World) : Obj := { cls := .type "set",dict := none,data := .set #[] 0 (.fresh 0 0 (!w.params.followText "set-order")) }
theorem mA {h : Heap} {b : Addr} (hb : h.objs.size <= b) : h.get? b = none := by
  cases e : h.get? b with
  | none => rfl
  | some o => exact absurd (Nat.lt_of_lt_of_le (Heap.lt_size e) hb) (Nat.lt_irrefl _)
set_option maxHeartbeats 6400000 in
theorem make_set {l : Addr} {vs : Array Value} (ks : List (Addr × List Int)) {Q : Value -> Shared -> Prop} (nh : A.handled = none) (hl : s.heap.IsList l vs) (ev : vs.toList = ks.map fun q => Value.ref q.1)
    (tk : ∀ q ∈ ks,IsT P w s.heap q.2 q.1) (n64 : ks.length <= 64) (hu : A.units + 3 < cLine)
    (fin : ∀ (g : Heap) (n : Nat) L es ep t,SetB P w g s.heap.objs.size L es ep t -> Got ks ks.length L -> (∀ b o,s.heap.get? b = some o -> g.get? b = some o) -> Q (.ref s.heap.objs.size) { s with heap := g,toks := n }) :
    wpAny (model P w) A (call (.type "set") [.ref l]) Q E s := by
  have vz : vs.size = ks.length := by rw [<- Array.length_toList,ev,List.length_map]
  obtain ⟨c1,c2,mro⟩ := F.called_set.mro
  have f1 := F.called_set.made; have f2 := F.called_set.sub
  refine wpAny_call (codeAny_of_tree ?_); show wpAny _ _ (callAny (.type "set") _) _ _ _
  refine wpAny_pure ⟨Code.quiet_builtin _ (by decide +kernel),codeAny_builtin F.entry_type_call ?_⟩; rw [Around.under_plain (weight_type_call_type "set" [.ref l] []) rfl]
  have f3 := F.called_set.notType; have f4 := F.called_set.canCreate; have f5 := F.typeCall_set_1 (.ref l)
  repeat (any_goals (first | assumption | wp_step))
  have made : (s.heap.push (newSet w)).get? s.heap.objs.size = some (newSet w) := Heap.get?_push_size _ rfl
  refine codeAny_mono (code_set_led1 (.ref l) (E := E) (Q₁ := fun x s1 => x = .ref s.heap.objs.size /\ s1 = { s with heap := s.heap.push (newSet w) }) ⟨rfl,rfl⟩) fun r s1 hr => ?_
  match r,hr with
  | .error _,hr => exact hr
  | .ok (.ret x),hr =>
    obtain ⟨rfl,rfl⟩ := hr
    have ty : Shared.TypeIs { s with heap := s.heap.push (newSet w) } (.ref s.heap.objs.size) "set" := ⟨_,made,rfl⟩
    have f6 := F.called_set.init.lookup; have f7 := F.called_set.init.bind (.ref s.heap.objs.size)
    repeat (any_goals (first | assumption | wp_step))
    refine codeAny_mono (codeAny_call_builtin (R := wants (fun r s2 => r = .none /\ ∃ g n L es ep t,s2 = { s with heap := g,toks := n } /\ SetB P w g s.heap.objs.size L es ep t /\ Got ks ks.length L /\ ∀ b o,s.heap.get? b = some o -> g.get? b = some o) E)
      F.called_set.init.plain F.entry_set_init (check_set_init_1 ty ?_)) fun r2 s2 hr2 => ?_
    · obtain ⟨x,hx,cx,nx,dx⟩ := hl
      obtain ⟨xc,xd,xv,xs⟩ := x
      simp only at cx dx
      subst cx dx
      have hx1 : (s.heap.push (newSet w)).get? l = some { cls := .type "list",dict := xd,data := .seq vs nx,slots := xs } := Heap.get?_push_of_some _ hx
      have f8 := F.sub_list_set; have f9 := F.sub_list_frozenset
      have ne1 : (Value.type "list" == Value.type "dict") = false := by decide
      have isl : (s.heap.push (newSet w)).IsList l vs := ⟨_,hx1,rfl,nx,rfl⟩
      unfold Builtin.«set.__init__» noKeywords Builtin.Frozenset.updateFrom
      generalize ePI : pyIter = PI
      wp_walk
      subst ePI
      refine wpAny_pyIter_list isl (wpAny_bind (wpAny_runValue ?_))
      have lo : l < s.heap.objs.size := Heap.lt_size hx
      have nh3 : A.in1.in1.in1.handled = none := by simp [nh]
      have sz1 : (s.heap.push (newSet w)).objs.size = s.heap.objs.size + 1 := Heap.size_push ..
      have apart : s.heap.objs.size ∉ [(s.heap.push (newSet w)).objs.size,l] := by
        intro m
        simp only [List.mem_cons,List.not_mem_nil,or_false] at m
        rcases m with m | m
        · exact absurd (m.trans sz1) (Nat.ne_of_lt (Nat.lt_succ_self _))
        · exact absurd m.symm (Nat.ne_of_lt lo)
      have nI : l ≠ (s.heap.push (newSet w)).objs.size := fun e => absurd (e.trans sz1) (Nat.ne_of_lt (Nat.lt_succ_of_lt lo))
      refine upd_loop ((Walks.list nh3 _ l nI vs).toS) apart ks vz (by omega) (fun i v hv => ?_) s.heap tk (mA (Nat.le_refl _)) (fun b hb => mA (by rw [List.mem_singleton.mp hb,sz1]; exact Nat.le_succ _)) hu vs.size 0 _ (by omega)
        ⟨⟨_,Heap.get?_push_size _ rfl,rfl,rfl⟩,isl.push _⟩ (fun b o e => Heap.get?_push_of_some _ (Heap.get?_push_of_some _ e)) ⟨[],#[],0,_,SetB.of (s := { s with heap := _ }) (setTR_fresh (Heap.get?_push_of_some _ made)),Got.zero ks⟩ fun s3 L es ep t mv B got kp => ?_
      · have e : (vs.toList)[i]? = some v := by rw [Array.getElem?_toList]; exact hv
        rw [ev,List.getElem?_map] at e
        obtain ⟨q,e1,e2⟩ := Option.map_eq_some_iff.mp e
        exact ⟨q,e1,e2.symm⟩
      · obtain ⟨g,a1,a2,a3,a4⟩ := s3
        obtain rfl : a1 = s.gens := mv.gens
        obtain rfl : a2 = s.drawn := mv.drawn
        obtain rfl : a4 = s.os := mv.os
        refine wpAny_pure ?_
        show wpAny _ _ (ret Value.none) _ _ _
        rw [vz] at got
        exact wpAny_pure ⟨rfl,g,a3,L,es,ep,t,rfl,B,got,kp⟩
    · match r2,hr2 with
      | .error _,hr2 => exact hr2
      | .ok (.ret r),hr2 =>
        obtain ⟨rfl,g,n,L,es,ep,t,rfl,B,got,kp⟩ := hr2
        repeat (any_goals (first | assumption | wp_step))
        exact fin _ _ _ _ _ _ B got kp
set_option maxHeartbeats 6400000 in
theorem make_setI {l : Addr} {vs : Array Value} (ns : List Int) {Q : Value -> Shared -> Prop} (nh : A.handled = none) (hl : s.heap.IsList l vs) (ev : IntsAre vs.toList ns)
    (hb : ns.length + 1 < scanBound)
    (fin : ∀ (g : Heap) (n c : Nat),SetR w g s.heap.objs.size (fun j => decide (j ∈ ns)) c -> c <= ns.length -> (∀ b o,s.heap.get? b = some o -> g.get? b = some o) -> Q (.ref s.heap.objs.size) { s with heap := g,toks := n }) :
    wpAny (model P w) A (call (.type "set") [.ref l]) Q E s := by
  have vz : vs.size = ns.length := by rw [<- Array.length_toList]; exact IntsAre.length ev
  obtain ⟨c1,c2,mro⟩ := F.called_set.mro
  have f1 := F.called_set.made; have f2 := F.called_set.sub
  refine wpAny_call (codeAny_of_tree ?_); show wpAny _ _ (callAny (.type "set") _) _ _ _
  refine wpAny_pure ⟨Code.quiet_builtin _ (by decide +kernel),codeAny_builtin F.entry_type_call ?_⟩; rw [Around.under_plain (weight_type_call_type "set" [.ref l] []) rfl]
  have f3 := F.called_set.notType; have f4 := F.called_set.canCreate; have f5 := F.typeCall_set_1 (.ref l)
  repeat (any_goals (first | assumption | wp_step))
  have made : (s.heap.push (newSet w)).get? s.heap.objs.size = some (newSet w) := Heap.get?_push_size _ rfl
  refine codeAny_mono (code_set_led1 (.ref l) (E := E) (Q₁ := fun x s1 => x = .ref s.heap.objs.size /\ s1 = { s with heap := s.heap.push (newSet w) }) ⟨rfl,rfl⟩) fun r s1 hr => ?_
  match r,hr with
  | .error _,hr => exact hr
  | .ok (.ret x),hr =>
    obtain ⟨rfl,rfl⟩ := hr
    have ty : Shared.TypeIs { s with heap := s.heap.push (newSet w) } (.ref s.heap.objs.size) "set" := ⟨_,made,rfl⟩
    have f6 := F.called_set.init.lookup; have f7 := F.called_set.init.bind (.ref s.heap.objs.size)
    repeat (any_goals (first | assumption | wp_step))
    refine codeAny_mono (codeAny_call_builtin (R := wants (fun r s2 => r = .none /\ ∃ g n c,s2 = { s with heap := g,toks := n } /\ SetR w g s.heap.objs.size (fun j => decide (j ∈ ns)) c /\ c <= ns.length /\ ∀ b o,s.heap.get? b = some o -> g.get? b = some o) E)
      F.called_set.init.plain F.entry_set_init (check_set_init_1 ty ?_)) fun r2 s2 hr2 => ?_
    · obtain ⟨x,hx,cx,nx,dx⟩ := hl
      obtain ⟨xc,xd,xv,xs⟩ := x
      simp only at cx dx
      subst cx dx
      have hx1 : (s.heap.push (newSet w)).get? l = some { cls := .type "list",dict := xd,data := .seq vs nx,slots := xs } := Heap.get?_push_of_some _ hx
      have f8 := F.sub_list_set; have f9 := F.sub_list_frozenset
      have ne1 : (Value.type "list" == Value.type "dict") = false := by decide
      have isl : (s.heap.push (newSet w)).IsList l vs := ⟨_,hx1,rfl,nx,rfl⟩
      unfold Builtin.«set.__init__» noKeywords Builtin.Frozenset.updateFrom
      generalize ePI : pyIter = PI
      wp_walk
      subst ePI
      refine wpAny_pyIter_list isl (wpAny_bind (wpAny_runValue ?_))
      have lo : l < s.heap.objs.size := Heap.lt_size hx
      have nh3 : A.in1.in1.in1.handled = none := by simp [nh]
      have sz1 : (s.heap.push (newSet w)).objs.size = s.heap.objs.size + 1 := Heap.size_push ..
      have apart : s.heap.objs.size ∉ [(s.heap.push (newSet w)).objs.size,l] := by
        intro m
        simp only [List.mem_cons,List.not_mem_nil,or_false] at m
        rcases m with m | m
        · exact absurd (m.trans sz1) (Nat.ne_of_lt (Nat.lt_succ_self _))
        · exact absurd m.symm (Nat.ne_of_lt lo)
      have nI : l ≠ (s.heap.push (newSet w)).objs.size := fun e => absurd (e.trans sz1) (Nat.ne_of_lt (Nat.lt_succ_of_lt lo))
      refine set_update_ints ((Walks.list nh3 _ l nI vs).toS) _ apart ns vz hb (fun i v hv => ?_) vs.size 0 _ (by omega) (Nat.zero_le _) ⟨⟨_,Heap.get?_push_size _ rfl,rfl,rfl⟩,isl.push _⟩ ⟨0,Nat.le_refl 0,setR_new_at (Heap.get?_push_of_some _ made)⟩ fun s3 c mv hc B => ?_
      · have hi : i < ns.length := by rw [<- vz]; exact (Array.getElem?_eq_some_iff.mp hv).1
        obtain ⟨t,e⟩ := IntsAre.int_at ev i v (by rw [Array.getElem?_toList]; exact hv)
        exact ⟨ns[i],t,List.getElem?_eq_getElem hi,by rw [e,List.getD_eq_getElem?_getD,List.getElem?_eq_getElem hi]; rfl⟩
      · obtain ⟨g,a1,a2,a3,a4⟩ := s3
        obtain rfl : a1 = s.gens := mv.gens
        obtain rfl : a2 = s.drawn := mv.drawn
        obtain rfl : a4 = s.os := mv.os
        refine wpAny_pure ?_
        show wpAny _ _ (ret Value.none) _ _ _
        rw [vz] at hc
        refine wpAny_pure ⟨rfl,g,a3,c,rfl,B,hc,fun b o e => mv.heap b o (fun m => ?_) (Heap.get?_push_of_some _ (Heap.get?_push_of_some _ e))⟩
        have lb := Heap.lt_size e
        simp only [List.mem_cons,List.not_mem_nil,or_false] at m
        rcases m with m | m
        · exact absurd m (Nat.ne_of_lt lb)
        · exact absurd (m.trans sz1) (Nat.ne_of_lt (Nat.lt_succ_of_lt lb))
    · match r2,hr2 with
      | .error _,hr2 => exact hr2
      | .ok (.ret r),hr2 =>
        obtain ⟨rfl,g,n,c,rfl,B,got,kp⟩ := hr2
        repeat (any_goals (first | assumption | wp_step))
        exact fin _ _ _ B got kp
end
end SoS
set_option autoImplicit true
namespace SoS
open PySem PySem.Spec PyProof.Rows L2
section
variable {P : Program} {w : World} {A : Around} {E : Value -> Shared -> Prop} {s : Shared}
theorem sorted_set {a : Addr} {L : List (Addr × List Int)} {es : Array (Int × Value)} {ep : Nat} {t : SetTable} {Q : Value -> Shared -> Prop} (R : SetB P w s.heap a L es ep t) (hh : A.handled = none) (hu : A.units + 3 < cLine)
    (hti : ∀ p ∈ L,SoT.IsTI s.heap (.ref p.1) p.2)
    (hQ : ∀ s' p (out : Array Value) (c : Nat) (L' : List (Addr × List Int)),(∀ b o,s.heap.get? b = some o -> s'.heap.get? b = some o) -> s'.gens = s.gens -> s'.os = s.os -> s.heap.objs.size <= p ->
      s'.heap.get? p = some (seqObj "list" out c) -> out.toList = L'.map (fun q => Value.ref q.1) -> L'.Perm L -> L'.map (·.2) = Sp.tsort (L.map (·.2)) -> Q (.ref p) s') :
    wpAny (model P w) A (call (.builtin "sorted") [.ref a]) Q E s := by
  obtain ⟨o,ho,hex,hd⟩ := R.obj
  have hsz := R.size
  have hfew := R.sml
  refine Calls.call_function_entry kind_sorted plain_sorted entry_sorted (args_sorted1 _) ?_
  unfold Builtin.«sorted»
  refine wpAny_bind (m := checkCount "sorted" 1 1 _) (wpAny_pure ?_)
  refine wpAny_bind (collect_set (A := A.in1) hh ⟨o,ho,hex.1,hd⟩ R.fits (by unfold scanBound; omega) R.tb.ris R.ldg fun s1 vs k1 hz g1 o1 pm => ?_)
  have hes : es.toList.map (·.2) = L.map fun q => Value.ref q.1 := by
    rw [R.row]
    unfold rowsOf
    rw [List.map_map] <;> rfl
  rw [hes] at pm
  have one : ∀ q ∈ L,∀ r ∈ L,q.1 = r.1 -> q = r := fun q hq r hr e => by
    have a1 := R.tps q hq
    have a2 := R.tps r hr
    rw [e] at a1
    have e2 : q.2 = r.2 := a1.inj a2
    exact Prod.ext e e2
  let k : Value -> List Int := fun v => match v with
    | .ref b => ((L.find? fun p => decide (p.1 = b)).map (·.2)).getD []
    | _ => []
  have kk : ∀ p ∈ L,k (.ref p.1) = p.2 := fun p hp => by
    show ((L.find? fun r => decide (r.1 = p.1)).map (·.2)).getD [] = p.2
    cases e : L.find? fun r => decide (r.1 = p.1) with
    | none =>
      have := List.find?_eq_none.mp e p hp
      simp at this
    | some r =>
      have h1 := List.mem_of_find?_eq_some e
      have h2 := List.find?_some e
      have := one r h1 p hp (of_decide_eq_true h2)
      rw [this]
      rfl
  have hvl : vs.length <= 64 := by rw [pm.length_eq,List.length_map]; exact hfew
  have mem : ∀ v ∈ vs,∃ p ∈ L,v = .ref p.1 := fun v hv => by
    obtain ⟨p,hp,e⟩ := List.mem_map.mp (pm.mem_iff.mp hv)
    exact ⟨p,hp,e.symm⟩
  have ord : ∀ vs : List Value,(∀ v ∈ vs,∃ q ∈ L,v = Value.ref q.1) -> ∃ L1 : List (Addr × List Int),vs = L1.map (fun q => Value.ref q.1) /\ ∀ q ∈ L1,q ∈ L := by
    intro vs
    induction vs with
    | nil => intro _; exact ⟨[],rfl,fun q hq => (by cases hq)⟩
    | cons v vs ih =>
      intro hv
      obtain ⟨q,hq,e⟩ := hv v List.mem_cons_self
      obtain ⟨L1,e1,hs⟩ := ih fun u hu => hv u (List.mem_cons_of_mem _ hu)
      refine ⟨q :: L1,by rw [List.map_cons,e,e1],fun r hr => ?_⟩
      rcases List.mem_cons.mp hr with z | z
      · rw [z]; exact hq
      · exact hs r z
  have perm_of : ∀ L1 : List (Addr × List Int),(∀ q ∈ L1,q ∈ L) -> (L1.map (fun q => Value.ref q.1)).Perm (L.map fun q => Value.ref q.1) -> L1.Perm L := by
    intro L1 hs pm1
    have nL : L.Nodup := nodup_of_map R.ndp
    have nref : (L.map fun q => Value.ref q.1).Nodup := by
      refine List.pairwise_map.mpr (List.Pairwise.imp_of_mem (fun {q r} hq hr hne e => ?_) nL)
      injection e with e
      exact hne (one q hq r hr e)
    have n1 : L1.Nodup := nodup_of_map (pm1.nodup_iff.mpr nref)
    refine (List.perm_ext_iff_of_nodup n1 nL).mpr fun q => ⟨hs q,fun hq => ?_⟩
    have hm : Value.ref q.1 ∈ L1.map (fun q => Value.ref q.1) := pm1.mem_iff.mpr (List.mem_map.mpr ⟨q,hq,rfl⟩)
    obtain ⟨r,hr,e⟩ := List.mem_map.mp hm
    injection e with e
    rw [<- one r (hs r hr) q hq e]
    exact hr
  refine wpAny_bind (wpAny_newList ?_ (by rw [sizeLine_eq]; omega))
  have hoL : (s1.heap.push (seqObj "list" vs.toArray 0)).get? s1.heap.objs.size = some (seqObj "list" vs.toArray 0) := Heap.get?_push_size _ rfl
  have htk : ∀ v ∈ vs,SoT.IsTI (s1.heap.push (seqObj "list" vs.toArray 0)) v (k v) := fun v hv => by
    obtain ⟨p,hp,rfl⟩ := mem v hv
    rw [kk p hp]
    exact (hti p hp).keeps fun b o _ e => Heap.get?_push_of_some _ (k1 b o e)
  refine wpAny_bind (wpAny_holding (wpAny_call_entry PyProof.Rows.slot_list_sort ⟨_,hoL,rfl⟩ PyProof.Rows.entry_list_sort
    (SrtO.list_sort_ord (s := { s1 with heap := s1.heap.push (seqObj "list" vs.toArray 0) }) (SoT.lex_swo k) hoL (by rw [sizeLine_eq]; omega) (fun h2 => SoT.ti_sortable (k := k) h2 (by show A.units + 1 + 1 < cLine; omega) htk fun o e => ?_) fun out h1 h2 => ⟨_,rfl,?_⟩) (PyProof.Rows.args_list_sort _)))
  · have e' : some o = some (seqObj "list" vs.toArray 0) := e.symm.trans hoL
    cases e'
    intro c
    exact absurd (Value.type.inj c) (by decide)
  · obtain ⟨c,hc⟩ := sortedHeap_at (vs := vs) (out := out.toArray) hoL
    obtain ⟨L',e',hs'⟩ := ord out fun v hv => mem v (h2.perm.mem_iff.mp hv)
    have pL : L'.Perm L := perm_of L' hs' (by rw [<- e']; exact h2.perm.trans pm)
    have hmap : L'.map (·.2) = out.map k := by
      rw [e',List.map_map]
      exact List.map_congr_left fun p hp => (kk p (hs' p hp)).symm
    refine wpAny_pure ⟨_,rfl,hQ _ s1.heap.objs.size out.toArray c L' (fun b u e => ?_) g1 o1 hz hc (by simpa using e') pL ?_⟩
    · have q := k1 b u e
      have hlt := Heap.lt_size q
      show (sortedHeap (s1.heap.push (seqObj "list" vs.toArray 0)) s1.heap.objs.size vs out.toArray).get? b = some u
      rw [sortedHeap_old (Nat.ne_of_lt hlt) (by rw [size_push']; exact Nat.lt_succ_of_lt hlt)]
      exact Heap.get?_push_of_some _ q
    · rw [hmap]
      refine Sp.tsort_eq ?_ (List.pairwise_map.mpr h1)
      rw [<- hmap]
      exact pL.map _
end
end SoS
namespace Sp
open PySem PySem.Spec PyProof.Rows L2
section
variable {X : Cx}
theorem n5 {K : PySem.W.Frag} {p : Pm} {H : Hp} : ∀ {ns : List Int} {ws : List V},Reps K p H ws (ns.map D.int) -> ws = ns.map V.int
  | [],_,.nil => rfl
  | n :: r,_,.cons h t => by
    cases h
    rw [n5 t]
    rfl
theorem jU {K : PySem.W.Frag} {p : Pm} {H : Hp} : ∀ ns : List Int,Reps K p H (ns.map V.int) (ns.map D.int)
  | [] => .nil
  | n :: r => .cons (.int n) (jU r)
structure SetB0 (P : Program) (w : World) (h : Heap) (a : Addr) (L : List (Addr × List Int)) : Prop where
  x : ∃ (fs : Array (Int × Value)) (c : Nat) (u : SetTable),(∃ o,h.get? a = some o /\ o.ExactSet /\ o.data = .set fs c u) /\ fs.toList = rowsOf P w L /\ TabOk u (L.map fun q => thash P w q.2) /\ (L.map (·.2)).Nodup /\ u.plain = true /\
    (w.params.followText "set-order" = true \/ u.led = true) /\ L.length * 5 < u.mask * 3 /\ L.length <= 64
def SetBO (P : Program) (w : World) (a : Addr) (L : List (Addr × List Int)) : HO := .ext fun g => SetB0 P w g a L
theorem lKa {P : Program} {w : World} {H : Hp} {g : Heap} {a : Addr} {L : List (Addr × List Int)} (R : SetB0 P w g a L) : ObjOk P w H g a (SetBO P w a L) := by
  have ⟨_,_,_,⟨o,ho,_⟩,_⟩ := R.x
  exact ⟨R,⟨o,ho⟩,fun g1 g2 p kp => by
    have ⟨fs,c,u,⟨o1,ho1,r1⟩,r2⟩ := SetB0.x p
    exact ⟨fs,c,u,⟨o1,kp o1 ho1,r1⟩,r2⟩⟩
theorem SetB0.whole {P : Program} {w : World} {g : Heap} {a : Addr} {L : List (Addr × List Int)} (R : SetB0 P w g a L) (ht : ∀ q ∈ L,IsT P w g q.2 q.1) : ∃ fs c u,SoS.SetB P w g a L fs c u := by
  have ⟨fs,c,u,h1,h2,h3,h4,h5,h6,h7,h8⟩ := R.x
  exact ⟨fs,c,u,h1,h2,h3,h4,ht,h5,h6,h7,h8⟩
def rSetBT (K : PySem.W.Frag) (P : Program) (w : World) : List V -> Hp -> VK -> Prop := fun vs H Q => ∃ (l : Addr) (ks : List (Addr × List Int)),vs = [V.ref l] /\ SqL K H l (ks.map fun p => V.ref p.1) /\ (∀ p ∈ ks,SqT K H p.1 (p.2.map V.int)) /\ ks.length <= 64 /\
  ∀ b M,H b = none -> (∀ p ∈ M,p ∈ ks) -> (∀ p ∈ ks,p.2 ∈ M.map (·.2)) -> Q (.ref b) (upd H b (SetBO P w b M))
theorem bTa (hc : X.calm = true) (hu : X.A.units + 64 < cLine) : CallR X (.type "set") (rSetBT X.K X.prog X.w) := by
  intro pins s σ H vs us Q I r ⟨l,ks,e,hl,hk,h64,q⟩
  subst e
  obtain ⟨u,rfl,rx⟩ := r.one
  cases rx
  obtain ⟨its,rv,pl,_⟩ := I.list hl
  have hn : H s.heap.objs.size = none := I.hok.fresh (Nat.le_refl _)
  refine SoS.make_set (P := X.prog) (w := X.w) ks (I.ok.hd hc) pl.isList (by simpa using refs_of_vals rv) (fun p hp => L2.Inv.isT I (hk p hp)) h64 (by omega) fun g n M fs c u B got kp => ?_
  exact ⟨.ref s.heap.objs.size,upd H s.heap.objs.size (SetBO X.prog X.w s.heap.objs.size M),I.laid (t' := n) kp (Nat.le_refl _) (lKa ⟨fs,c,u,B.obj,B.row,B.tb,B.ndp,B.pln,B.ldg,B.rm,B.sml⟩),rfl,
    q _ M hn (fun p hp => List.mem_of_mem_take (got.sub p hp)) fun p hp => got.all p (by rw [List.take_length]; exact hp)⟩
def rSortS (K : PySem.W.Frag) (P : Program) (w : World) : List V -> Hp -> VK -> Prop := fun vs H Q => ∃ (a : Addr) (L : List (Addr × List Int)),vs = [V.ref a] /\ H a = some (SetBO P w a L) /\ (∀ p ∈ L,SqT K H p.1 (p.2.map V.int)) /\
  ((L.map (·.2)).Nodup -> ∀ (L' : List (Addr × List Int)) p,L'.Perm L -> L'.map (·.2) = tsort (L.map (·.2)) -> H p = none -> Q (.ref p) (upd H p (.lst (L'.map fun q => V.ref q.1))))
theorem bYa (hc : X.calm = true) (hu : X.A.units + 64 < cLine) : CallR X (.builtin "sorted") (rSortS X.K X.prog X.w) := by
  intro pins s σ H vs us Q I r h
  obtain ⟨a,L,rfl,ha,hL,q⟩ := h
  obtain ⟨u,rfl,rx⟩ := r.one
  cases rx
  have R0 : SetB0 X.prog X.w s.heap a L := (show ObjOk X.prog X.w H s.heap a (SetBO X.prog X.w a L) from I.hok a _ ha).1
  obtain ⟨es,ep,t,R⟩ := R0.whole fun p hp => L2.Inv.isT I (hL p hp)
  have q := q R.ndp
  refine SoS.sorted_set R (I.ok.hd hc) (by omega) (fun p hp => ?_) fun s' p out c L' k g o hp hg hout pm pw => ?_
  · obtain ⟨its,r2,pl,_⟩ := I.tuple (hL p hp)
    exact ⟨p.1,its.toArray,rfl,pl,by
      show IntsAre its.toArray.toList p.2
      simpa using intsAre_of r2⟩
  have hfew : L'.length <= 64 := by rw [pm.length_eq]; exact R.sml
  have hlen : (L'.map fun q => V.ref q.1).length <= sizeLine := by rw [List.length_map,sizeLine_eq]; omega
  have hn : H p = none := I.hok.fresh hp
  have hv : Vals (L'.map fun q => V.ref q.1) out.toList := by rw [hout]; exact vals_of_refs L'
  have J : Inv X pins σ (upd H p (.lst (L'.map fun q => V.ref q.1))) { s with heap := s'.heap,gens := s'.gens,drawn := s'.drawn,toks := s'.toks } :=
    I.call (ch := []) (Un.laid k hp hn) (I.hok.laid k hp ⟨hlen,out.toList,c,hv,hg⟩) (by rw [g]; exact I.bare) (fun _ z => nomatch z)
  have e : s' = { s with heap := s'.heap,gens := s'.gens,drawn := s'.drawn,toks := s'.toks } := by
    cases s'
    cases s
    cases o
    rfl
  rw [e]
  exact ⟨.ref p,_,J,rfl,q L' p pm pw hn⟩
def rSetN (K : PySem.W.Frag) (w : World) : List V -> Hp -> VK -> Prop := fun vs H Q => ∃ (l : Addr) (ns : List Int),vs = [V.ref l] /\ SqL K H l (ns.map V.int) /\ ns.length < 63 /\ ∀ b c,H b = none -> c <= ns.length -> Q (.ref b) (upd H b (SetO w b (fun j => decide (j ∈ ns)) c))
theorem bUa (hc : X.calm = true) : CallR X (.type "set") (rSetN X.K X.w) := by
  intro pins s σ H vs us Q I r ⟨l,ns,e,hl,h64,q⟩
  subst e
  obtain ⟨u,rfl,rx⟩ := r.one
  cases rx
  obtain ⟨its,rv,pl,_⟩ := I.list hl
  have hn : H s.heap.objs.size = none := I.hok.fresh (Nat.le_refl _)
  refine SoS.make_setI (P := X.prog) (w := X.w) ns (I.ok.hd hc) pl.isList (by simpa using intsAre_of rv) (by unfold scanBound; omega) fun g n c B hle kp => ?_
  exact ⟨.ref s.heap.objs.size,upd H s.heap.objs.size (SetO X.w s.heap.objs.size (fun j => decide (j ∈ ns)) c),I.laid (t' := n) kp (Nat.le_refl _) (setO_new B),rfl,q _ c hn hle⟩
def rSortN (w : World) : List V -> Hp -> VK -> Prop := fun vs H Q => ∃ (a : Addr) (S : Int -> Bool) (n : Nat),vs = [V.ref a] /\ H a = some (SetO w a S n) /\ n < 64 /\ ∀ p (ms : List Int),H p = none -> ms.Pairwise (· < ·) -> (∀ k,k ∈ ms ↔ S k = true) -> Q (.ref p) (upd H p (.lst (ms.map V.int)))
theorem bWa (hc : X.calm = true) : CallR X (.builtin "sorted") (rSortN X.w) := by
  intro pins s σ H vs us Q I r ⟨a,S,n,e,ha,h64,q⟩
  subst e
  obtain ⟨u,rfl,rx⟩ := r.one
  cases rx
  refine L2.sorted_set (setO_get I ha) (I.ok.hd hc) h64 fun s' p out c ms k g o hp hg hout pw hm hlen => ?_
  have hl2 : (ms.map V.int).length <= sizeLine := by rw [List.length_map,sizeLine_eq]; omega
  have hn : H p = none := I.hok.fresh hp
  have hv : Vals (ms.map V.int) out.toList := vals_of_ints hout
  have J : Inv X pins σ (upd H p (.lst (ms.map V.int))) { s with heap := s'.heap,gens := s'.gens,drawn := s'.drawn,toks := s'.toks } :=
    I.call (ch := []) (Un.laid k hp hn) (I.hok.laid k hp ⟨hl2,out.toList,c,hv,hg⟩) (by rw [g]; exact I.bare) (fun _ z => nomatch z)
  have e : s' = { s with heap := s'.heap,gens := s'.gens,drawn := s'.drawn,toks := s'.toks } := by
    cases s'
    cases s
    cases o
    rfl
  rw [e]
  exact ⟨.ref p,_,J,rfl,q p ms hn pw hm⟩
theorem lF {f : Value} {r1 r2 : List V -> Hp -> VK -> Prop} (h1 : CallR X f r1) (h2 : CallR X f r2) : CallR X f fun vs H Q => r1 vs H Q \/ r2 vs H Q := by
  intro pins s σ H vs us Q I r h
  rcases h with h | h
  · exact h1 pins s σ H vs us Q I r h
  · exact h2 pins s σ H vs us Q I r h
theorem up_eq {ms ns : List Int} (pw : ms.Pairwise (· < ·)) (hm : ∀ k,k ∈ ms ↔ decide (k ∈ ns) = true) : ms = isort (dedup ns) := by
  refine mH ?_ (pw.imp fun h => Int.le_of_lt h)
  refine (List.perm_ext_iff_of_nodup (pw.imp fun h => by omega) (g9 _)).mpr fun k => ?_
  rw [hm,decide_eq_true_eq,eA]
theorem kKa {e : Expr} {a : CE} {f : SE} {p1 p2 pos q2 : Pos} (hc : X.calm = true) (hu : X.A.units + 64 < cLine) (hf : SEm f) (hg : Gl X "sorted") (hm : X.mg "sorted" = none) (hg2 : Gl X "set") (hm2 : X.mg "set" = none) (ha : PE X e (RO X.K a f)) (hs : starred e = false) :
    PE X (.Call (.Name "sorted" p1) [.Call (.Name "set" p2) [e] [] q2] [] pos) (RR X.K fun L cs Q => opd a f L cs fun u cs1 => ok (ssetV (view cs1 u)) fun d => Q d cs1) := by
  have k1 : PE X (.Call (.Name "set" p2) [e] [] q2) (tCB (fun vs H Q => rSetBT X.K X.prog X.w vs H Q \/ rSetN X.K X.w vs H Q) (tCons (RO X.K a f) tNil)) :=
    pe_callTy (lF (bTa hc hu) (bUa hc)) hg2 hm2 rfl (pa_cons ha pa_nil (aD hs _ _)) (by decide) (by decide) (aD hs _ _) rfl
  have k2 : PE X (.Call (.Name "sorted" p1) [.Call (.Name "set" p2) [e] [] q2] [] pos) (tCB (fun vs H Q => rSortS X.K X.prog X.w vs H Q \/ rSortN X.w vs H Q) (tCons (tCB (fun vs H Q => rSetBT X.K X.prog X.w vs H Q \/ rSetN X.K X.w vs H Q) (tCons (RO X.K a f) tNil)) tNil)) :=
    pe_callB (lF (bYa hc hu) (bWa hc)) hg hm rfl (pa_cons k1 pa_nil rfl) (by decide) (by decide) rfl rfl
  refine k2.imp fun σ H Q ⟨p,L,cs,R,q⟩ => ⟨p,L,cs,R,aB hf (fun u cs1 w v p1 H1 R1 x1 r1 => ?_) q⟩
  have s1 := R1.view r1
  generalize view cs1 u = d at s1 w
  cases d with
  | lst xs =>
    obtain ⟨l,vs,rfl,hl,rs⟩ := s1
    have w : ok (match D.tintss xs with
      | some nss => some (nss.length < 65,D.lst ((tsort (dedup nss)).map fun ns => D.tup (ns.map D.int)))
      | none => match D.ints xs with
        | some ns => some (ns.length < 63,D.lst ((isort (dedup ns)).map D.int))
        | none => none) _ := w
    cases e1 : D.tintss xs with
    | none =>
      rw [e1] at w
      have w : ok (match D.ints xs with
        | some ns => some (ns.length < 63,D.lst ((isort (dedup ns)).map D.int))
        | none => none) _ := w
      cases e2 : D.ints xs with
      | none => rw [e2] at w; exact w.elim
      | some ns =>
        rw [e2] at w
        obtain ⟨h63,w⟩ := w
        have ev : vs = ns.map V.int := rs.ints e2
        rw [ev] at hl
        refine .inr ⟨l,ns,rfl,hl.sq,h63,fun b c hb hle => .inr ⟨b,_,c,rfl,upd_same,by omega,fun q ms hq pw hm => ?_⟩⟩
        obtain ⟨R2,x2⟩ := R1.new (o := SetO X.w b (fun j => decide (j ∈ ns)) c) hb
        refine w _ p1 _ _ R2 (x1.trans x2) ⟨q,_,rfl,hq,rfl,?_⟩
        rw [<- up_eq pw hm]
        exact jU ms
    | some nss =>
      rw [e1] at w
      obtain ⟨h64,w⟩ := w
      obtain ⟨e2,e3,e4⟩ := rs.tints e1
      have hks : ∃ ks : List (Addr × List Int),vs = ks.map (fun p => V.ref p.1) /\ ks.map (·.2) = nss /\ ∀ p' ∈ ks,H1 p'.1 = some (.tup (p'.2.map V.int)) /\ ¬ p1.M p'.1 := by
        clear e2 e1 w h64 hl rs
        induction vs generalizing nss with
        | nil =>
          cases nss with
          | nil => exact ⟨[],rfl,rfl,fun p' h => nomatch h⟩
          | cons => simp at e3
        | cons v vs ih =>
          cases nss with
          | nil => simp at e3
          | cons ns nss =>
            obtain ⟨⟨t,rfl,_⟩,r0⟩ := e4 0 v ns rfl rfl
            obtain ⟨ks,h1,h2,h3⟩ := ih nss (by simpa using e3) fun i v ns a b => e4 (i + 1) v ns (by simpa using a) (by simpa using b)
            cases r0 with
            | tup q n r =>
              rename_i ws
              have : ws = ns.map V.int := by
                exact n5 r
              rw [this] at q
              refine ⟨(t,ns) :: ks,by rw [h1]; rfl,by rw [List.map_cons,h2],fun p' hp => ?_⟩
              rcases List.mem_cons.mp hp with z | z
              · rw [z]; exact ⟨q,n⟩
              · exact h3 p' z
      obtain ⟨ks,e5,e6,e7⟩ := hks
      refine .inl ⟨l,ks,rfl,by rw [<- e5]; exact hl.sq,fun p' hp => .inl (.inl (e7 p' hp).1),by rw [<- List.length_map (f := (·.2)),e6]; exact Nat.le_of_lt_succ h64,fun b L' hb hsub hall => ?_⟩
      have hne : ∀ p' ∈ ks,(upd H1 b (SetBO X.prog X.w b L')) p'.1 = some (.tup (p'.2.map V.int)) := fun p' hp => by
        rw [upd_ne (fun z => by have := (e7 p' hp).1; rw [z,hb] at this; cases this)]
        exact (e7 p' hp).1
      obtain ⟨R2,x2⟩ := R1.new (o := SetBO X.prog X.w b L') hb
      refine .inl ⟨b,L',rfl,upd_same,fun p' hp => .inl (.inl (hne p' (hsub p' hp))),fun hnd L'' c pm pw hc => ?_⟩
      refine w _ p1 _ _ R2 (x1.trans x2) ⟨c,_,rfl,hc,rfl,?_⟩
      have et : tsort (L'.map (·.2)) = tsort (dedup nss) := by
        refine tsort_eq ?_ ?_
        · refine (List.mergeSort_perm _ _).trans ?_
          refine (List.perm_ext_iff_of_nodup hnd (g9 _)).mpr fun ns => ?_
          rw [eA,<- e6]
          constructor
          · intro h
            obtain ⟨p',hp,rfl⟩ := List.mem_map.mp h
            exact List.mem_map.mpr ⟨p',hsub p' hp,rfl⟩
          · intro h
            obtain ⟨p',hp,rfl⟩ := List.mem_map.mp h
            exact hall p' hp
        · have h3 := List.pairwise_mergeSort (le := fun a b : List Int => !HT.lexLt b a) (fun a b c h g => by
            rw [SoT.lex_tr a b c (by simpa using h) (by simpa using g)]
            rfl) (fun a b => by
            cases h : HT.lexLt a b with
            | true => rw [SoT.lex_asym a b h]; rfl
            | false => simp) (L'.map (·.2))
          exact h3.imp fun h => by simpa using h
      rw [<- et,<- pw]
      have hmem : ∀ q ∈ L'',q ∈ ks := fun q hq => hsub q (pm.mem_iff.mp hq)
      clear pw pm et
      induction L'' with
      | nil => exact .nil
      | cons q r ih =>
        have hq := hmem q (List.mem_cons_self ..)
        exact .cons (.tup (hne q hq) (e7 q hq).2 (jU _)) (ih fun y hy => hmem y (List.mem_cons_of_mem _ hy))
  | _ => exact (show False from w).elim
end
end Sp
set_option autoImplicit true
namespace Sp
open PySem PySem.Spec PyProof.Rows L2
section
variable {prog : Program} {w : World} {A : Around} {E : Value -> Shared -> Prop} {s : Shared}
theorem aRa (n : Nat) : Builtin.Slice.sliceAdjust none none (-1) (n : Int) = ((n : Int) - 1,-1) := by
  unfold Builtin.Slice.sliceAdjust
  rfl
theorem iLa (n : Nat) : Builtin.Slice.slicePlaces ((n : Int) - 1) (-1) (-1) = n := by
  unfold Builtin.Slice.slicePlaces
  have h1 : ¬ ((-1 : Int) > 0) := by decide
  simp only [h1,if_false]
  split
  · rw [show (- -1 : Int) = 1 by decide,Int.ediv_one]
    omega
  · omega
theorem lMa {sl : Addr} {vs : Value} {n : Nat} {Q : Int × Int × Nat -> Shared -> Prop} (hs : s.heap.IsSliceOf sl .none .none vs) (ps : IsPart vs (some (-1)))
    (h : Q ((n : Int) - 1,-1,n) s) : wpAny (model prog w) A (Builtin.Slice.sliceApplied (.ref sl) (pure (n : Int))) Q E s := by
  obtain ⟨os,hos,hcs,hds⟩ := id hs
  unfold Builtin.Slice.sliceApplied Builtin.Slice.sliceFields
  refine wpAny_bind (wpAny_bind (wpAny_field hos hds (x := .none) rfl (wpAny_bind (wpAny_field hos hds (x := .none) rfl (wpAny_bind (wpAny_field hos hds (x := vs) rfl (wpAny_pure ?_)))))))
  refine wpAny_bind (HT.slicePart_ ps ?_)
  show wpAny _ _ (if ((-1 : Int) == 0) = true then _ else _) _ _ s
  rw [if_neg (by decide)]
  refine wpAny_bind (HT.slicePart_ .none (wpAny_bind (HT.slicePart_ .none (wpAny_bind (wpAny_pure ?_)))))
  show wpAny _ _ (match Builtin.Slice.sliceAdjust none none (-1) (n : Int) with | (lo,hi) => pure (lo,(-1 : Int),Builtin.Slice.slicePlaces lo hi (-1))) _ _ s
  rw [aRa n]
  show wpAny _ _ (pure ((n : Int) - 1,(-1 : Int),Builtin.Slice.slicePlaces ((n : Int) - 1) (-1) (-1))) _ _ s
  rw [iLa]
  exact wpAny_pure h
theorem lY {α β : Type} {f g : α -> Option β} : ∀ {l : List α},(∀ x ∈ l,f x = g x) -> l.filterMap f = l.filterMap g
  | [],_ => rfl
  | x :: r,h => by
    rw [List.filterMap_cons,List.filterMap_cons,h x (List.mem_cons_self ..),lY fun y hy => h y (List.mem_cons_of_mem _ hy)]
theorem iKa (xs : Array Value) : ((List.range xs.size).filterMap fun (m : Nat) => xs[(((xs.size : Int) - 1) + (m : Int) * (-1)).toNat]?).toArray = xs.toList.reverse.toArray := by
  have e := PySem.W.krv_pick xs
  unfold slicePick at e
  rw [PySem.W.krv_bounds] at e
  have e : ((sliceRange ((xs.size : Int) - 1) (-1) (-1)).filterMap (xs[·]?)).toArray = _ := e
  rw [PySem.W.krv_sliceRange,List.filterMap_map] at e
  rw [<- e]
  congr 1
  refine lY fun m hm => ?_
  have := List.mem_range.mp hm
  show xs[(((xs.size : Int) - 1) + (m : Int) * (-1)).toNat]? = xs[xs.size - 1 - m]?
  congr 1
  omega
theorem eSa {t sl : Addr} {items : Array Value} {vs : Value} {Q : Value -> Shared -> Prop} (ht : IsTup s.heap t items) (hs : s.heap.IsSliceOf sl .none .none vs) (ps : IsPart vs (some (-1)))
    (h : Q (.ref s.heap.objs.size) { s with heap := s.heap.push { cls := .type "tuple",data := .seq items.toList.reverse.toArray } })
    (hsz : items.size <= sizeLine) : wpAny (model prog w) A (getItem (.ref t) (.ref sl)) Q E s := by
  have htake : sizeOk (.seq items.toList.reverse.toArray) := by
    show items.toList.reverse.toArray.size <= sizeLine
    rw [List.size_toArray,List.length_reverse,Array.length_toList]
    omega
  obtain ⟨os,hos,hcs,hds⟩ := id hs
  have hTs : s.TypeIs (.ref sl) "slice" := ⟨os,hos,hcs⟩
  unfold getItem
  try with_reducible refine wpAny_holding ?_
  first | refine wpAny_bind (wpAny_pure ?_) | skip
  refine wpAny_bind (wpAny_sequenceKey ht.typeIs (by decide) ?_)
  refine wpAny_bind (wpAny_callSpecial?_slot (name := Str.ofString "__getitem__") ht.typeIs PyProof.Rows.slot_tuple_getitem
    (wpAny_call_entry PyProof.Rows.slot_tuple_getitem ht.typeIs entry_tuple_getitem ?_ (args_tuple_getitem _ _)))
  show wpAny _ _ (Builtin.Tuple.tupleItemsOf (.ref t) >>= _) _ _ s
  refine wpAny_bind (tupleItemsOf_ ht ?_)
  refine wpAny_bind (wpAny_typeOf hTs ?_)
  rw [if_pos (by decide)]
  refine wpAny_bind (lMa hs ps ?_)
  have hno : ¬ ((((items.size : Int) - 1) == 0 && (-1 : Int) == 1 && items.size == items.size) = true) := by
    rw [show ((-1 : Int) == 1) = false by decide,Bool.and_false,Bool.false_and]
    exact Bool.false_ne_true
  show wpAny _ _ (if (((items.size : Int) - 1) == 0 && (-1 : Int) == 1 && items.size == items.size) = true then _ else _) _ _ s
  rw [if_neg hno,iKa]
  first
    | exact wpAny_bind (m := Builtin.Tuple.tupleExact _) (wpAny_newObj_type (wpAny_pure ⟨_,rfl,wpAny_pure h⟩) htake)
    | exact wpAny_bind (m := Builtin.Tuple.tupleExact _) (wpAny_newObj_type (wpAny_bind (wpAny_pure (wpAny_pure ⟨_,rfl,wpAny_pure h⟩))) htake)
    | exact wpAny_bind (wpAny_bind (m := Builtin.Tuple.tupleExact _) (wpAny_newObj_type (wpAny_pure (wpAny_pure ⟨_,rfl,wpAny_pure h⟩)) htake))
    | exact wpAny_bind (wpAny_bind (m := Builtin.Tuple.tupleExact _) (wpAny_newObj_type (wpAny_pure ⟨_,rfl,wpAny_pure h⟩) htake))
end
def tRevB (K : PySem.W.Frag) (te : TE) : TE := fun σ H Q => te σ H fun x H1 => ∃ a xs,x = .ref a /\ ((SqL K H1 a xs /\ ∀ p,H1 p = none -> Q (.ref p) (upd H1 p (.lst xs.reverse))) \/ (SqT K H1 a xs /\ ∀ p,H1 p = none -> Q (.ref p) (upd H1 p (.tup xs.reverse))))
section
variable {X : Cx} {e : Expr} {te : TE}
theorem h7a {k : Nat} {p1 p2 p3 pos : Pos} (he : PE X e te) : PE X (.Subscript e (.Slice none none (some (.UnaryOp .USub (.Constant (.int 1) k p1) p2)) p3) pos) (tRevB X.K te) := by
  refine ⟨fun pins s σ H Q I h => ?_⟩
  refine Subscript_ (thn (he.run pins s σ H _ I h) fun v s1 ⟨x,H1,I1,r1,q1⟩ => ?_)
  obtain ⟨a,xs,ex,q⟩ := q1
  subst ex
  cases r1
  have hst : L2.PO X (some (.UnaryOp .USub (.Constant (.int 1) k p1) p2)) (tPart (tUn (rU fun i => .int (-i)) (tC (.int 1)))) := po_some (pe_un un_neg pe_int)
  refine wpAny_Slice (thn (po_none.run pins s1 σ H1 (fun o H2 => o = none /\ H2 = H1) I1 ⟨rfl,rfl⟩) fun vl s2 ⟨l,H2,I2,pl,el,e2⟩ => ?_)
  subst el e2
  refine thn (po_none.run pins s2 σ H2 (fun o H3 => o = none /\ H3 = H2) I2 ⟨rfl,rfl⟩) fun vu s3 ⟨u,H3,I3,pu,eu,e3⟩ => ?_
  subst eu e3
  refine thn (hst.run pins s3 σ H3 (fun o H4 => o = some (-1) /\ H4 = H3) I3 ⟨1,rfl,-1,rfl,rfl,rfl⟩) fun vs s4 ⟨o,H4,I4,ps,eo,e4⟩ => ?_
  subst eo e4
  cases pl
  cases pu
  have I5 : Inv X pins σ H4 { s4 with heap := s4.heap.push { cls := .type "slice",data := .fields #[.none,.none,vs] } } := I4.kept (t' := s4.toks) fun b ob q => Heap.get?_push_of_some _ q
  show wpAny (model X.prog X.w) X.A (subscriptTail e (.Slice none none (some (.UnaryOp .USub (.Constant (.int 1) k p1) p2)) p3) (.ref a) (.ref s4.heap.objs.size)) (EP X pins σ Q) X.xe { s4 with heap := s4.heap.push { cls := .type "slice",data := .fields #[.none,.none,vs] } }
  rcases q with ⟨hx,q⟩ | ⟨hx,q⟩
  · obtain ⟨its,r,ht,hz⟩ := I5.list hx
    have hlen := r.length
    refine tail_any (ops := [.ref a,.ref s4.heap.objs.size]) ht.isList.typeIs (PySem.slot_list_getitem.lookup) ?_ (by with_unfolding_all rfl)
    refine wpAny_getItem_list_slice ht.isList (Heap.IsSliceOf.new _ .none .none vs) .none .none ps (by decide) ?_ (by rw [List.size_toArray]; omega)
    rw [PySem.W.krv_pick]
    refine ⟨.ref _,_,I5.laid (t' := s4.toks) (o := .lst xs.reverse) (fun b ob q => Heap.get?_push_of_some _ q) (Nat.le_refl _) ?_,rfl,q _ (I5.hok.fresh (Nat.le_refl _))⟩
    exact ⟨by rw [List.length_reverse]; exact hz,_,0,r.reverse,Heap.get?_push_size _ rfl⟩
  · obtain ⟨its,r,ht,hz⟩ := I5.tuple hx
    have hlen := r.length
    refine tail_any (ops := [.ref a,.ref s4.heap.objs.size]) ht.typeIs (PyProof.Rows.slot_tuple_getitem.lookup) ?_ (by with_unfolding_all rfl)
    refine eSa ht (Heap.IsSliceOf.new _ .none .none vs) ps ?_ (by rw [List.size_toArray]; omega)
    refine ⟨.ref _,_,I5.laid (t' := s4.toks) (o := .tup xs.reverse) (fun b ob q => Heap.get?_push_of_some _ q) (Nat.le_refl _) ?_,rfl,q _ (I5.hok.fresh (Nat.le_refl _))⟩
    exact ⟨by rw [List.length_reverse]; exact hz,_,r.reverse,IsTup.new _ _⟩
variable {x y z : Expr} {f g h : SE} {a : CE} {pos : Pos}
theorem Reps.reverse {K : PySem.W.Frag} {p : Pm} {H : Hp} : ∀ {vs : List V} {ds : List D},Reps K p H vs ds -> Reps K p H vs.reverse ds.reverse
  | _,_,.nil => .nil
  | _,_,.cons h r => by
    rw [List.reverse_cons,List.reverse_cons]
    exact (Reps.reverse r).append (.cons h .nil)
theorem kGa {k : Nat} {p1 p2 p3 : Pos} (hf : SEm f) (ha : PE X x (RO X.K a f)) : PE X (.Subscript x (.Slice none none (some (.UnaryOp .USub (.Constant (.int 1) k p1) p2)) p3) pos) (RR X.K fun L cs Q => opd a f L cs fun u cs1 => ok (revV (view cs1 u)) fun d => Q d cs1) :=
  (h7a ha).imp fun σ H Q ⟨p,L,cs,R,q⟩ => ⟨p,L,cs,R,aB hf (fun u cs1 w v1 p1 H1 R1 x1 r1 => by
    have s1 := R1.view r1
    generalize view cs1 u = d at s1 w
    cases d with
    | lst ds =>
      obtain ⟨c,vs,rfl,hs,rs⟩ := s1
      exact ⟨c,vs,rfl,.inl ⟨hs.sq,fun b hb => w.2 _ p1 H1 _ R1 x1 ⟨b,_,rfl,hb,rfl,rs.reverse⟩⟩⟩
    | tup ds =>
      obtain ⟨c,vs,rfl,hs,rs⟩ := s1.tup
      exact ⟨c,vs,rfl,.inr ⟨hs,fun b hb => w.2 _ p1 H1 _ R1 x1 (.inl ⟨b,_,rfl,hb,rfl,rs.reverse⟩)⟩⟩
    | vtup ds =>
      obtain ⟨c,vs,rfl,hs,_,rs⟩ := Rep.vtupS s1
      exact ⟨c,vs,rfl,.inr ⟨hs,fun b hb => w.2 _ p1 H1 _ R1 x1 (.inl ⟨b,_,rfl,hb,rfl,rs.reverse⟩)⟩⟩
    | _ => exact (show False from w).elim) q⟩
theorem hU {K : PySem.W.Frag} {p : Pm} {H : Hp} (i : Int) (n : Nat) : Reps K p H ((List.range n).map fun k => V.int (i + (k : Nat))) (rangeD i n) := by
  unfold rangeD
  induction List.range n with
  | nil => exact .nil
  | cons x r ih => exact .cons (.int _) ih
def trgW (t : Bool) (F : Loc -> Cells -> (Option Int -> Cells -> Prop) -> Prop) (g : SE) : SE := fun L cs Q => F L cs fun l cs1 => g L cs1 fun d cs2 => match d with
    | .int j => (0 <= l.getD 0 /\ l.getD 0 <= 16777216 /\ 0 <= j /\ j <= 16777216) /\ match t with
      | true => Q (.tup (rangeD (l.getD 0) (j - l.getD 0).toNat)) cs2
      | false => Q (.lst (rangeD (l.getD 0) (j - l.getD 0).toNat)) cs2
    | _ => False
theorem kNa {p1 p2 q2 : Pos} (hc : X.calm = true) (hg : SEm g) (h1 : Gl X "tuple") (hm1 : X.mg "tuple" = none) (h2 : Gl X "reversed") (hm2 : X.mg "reversed" = none) (ha : PE X y (RE X.K g)) (hs : starred y = false) :
    PE X (.Call (.Name "tuple" p1) [.Call (.Name "reversed" p2) [y] [] q2] [] pos) (RR X.K fun L cs Q => g L cs fun d cs1 => match d with
      | .tup xs => Q (.tup xs.reverse) cs1
      | _ => False) :=
  (RtT.pe_tupRt hc h1 hm1 h2 hm2 ha (aD hs _ _) rfl).imp fun σ H Q ⟨p,L,cs,R,q⟩ => ⟨p,L,cs,R,hg _ _ _ _ (fun d cs1 w v p1 H1 R1 x1 r1 => by
    cases d with
    | tup ds =>
      obtain ⟨c,vs,rfl,hs,rs⟩ := r1.tupS
      exact ⟨c,vs,rfl,hs,fun b hb => w _ p1 H1 _ R1 x1 (.inl ⟨b,_,rfl,hb,rfl,rs.reverse⟩)⟩
    | _ => exact w.elim) q⟩
theorem kLa {p1 p2 q2 : Pos} {nm : Str} (t : Bool) (hn : nm = (if t = true then "tuple" else "list" : Str)) (hc : X.calm = true) (hg : SEm g) (h1 : Gl X nm) (hm1 : X.mg nm = none) (h2 : Gl X "range") (hm2 : X.mg "range" = none) (ha : PE X y (RE X.K g)) (hs : starred y = false) :
    PE X (.Call (.Name nm p1) [.Call (.Name "range" p2) [y] [] q2] [] pos) (RR X.K (trgW t (fun _ cs Q => Q none cs) g)) := by
  have k := prg_1 (pos := q2) (p := p2) h2 hm2 ha (aD hs _ _)
  cases t with
  | true =>
    subst hn
    exact (pe_tupRg hc h1 hm1 k rfl).imp fun σ H Q ⟨p,L,cs,R,q⟩ => ⟨p,L,cs,R,hg _ _ _ _ (fun d cs1 w v p1 H1 R1 x1 r1 => by
      cases d with
      | int j =>
        cases r1
        refine ⟨j,rfl,⟨by decide,by decide,by have := w.1; omega,by have := w.1; omega,by have := w.1; omega⟩,fun b hb => w.2 _ p1 H1 _ R1 x1 (.inl ⟨b,_,rfl,hb,rfl,hU 0 _⟩)⟩
      | _ => exact w.elim) q⟩
  | false =>
    subst hn
    exact (pe_listRg hc h1 hm1 k rfl).imp fun σ H Q ⟨p,L,cs,R,q⟩ => ⟨p,L,cs,R,hg _ _ _ _ (fun d cs1 w v p1 H1 R1 x1 r1 => by
      cases d with
      | int j =>
        cases r1
        refine ⟨j,rfl,⟨by decide,by decide,by have := w.1; omega,by have := w.1; omega,by have := w.1; omega⟩,fun b hb => w.2 _ p1 H1 _ R1 x1 ⟨b,_,rfl,hb,rfl,hU 0 _⟩⟩
      | _ => exact w.elim) q⟩
theorem kMa {p1 p2 q2 : Pos} {nm : Str} (t : Bool) (hn : nm = (if t = true then "tuple" else "list" : Str)) (hc : X.calm = true) (hf : SEm f) (hg : SEm g) (h1 : Gl X nm) (hm1 : X.mg nm = none) (h2 : Gl X "range") (hm2 : X.mg "range" = none) (hx : PE X x (RE X.K f)) (ha : PE X y (RE X.K g)) (hs : starred x = false) (hs2 : starred y = false) :
    PE X (.Call (.Name nm p1) [.Call (.Name "range" p2) [x,y] [] q2] [] pos) (RR X.K (trgW t (fun L cs Q => f L cs fun d cs1 => match d with
      | .int i => Q (some i) cs1
      | _ => False) g)) := by
  have k := prg_2 (pos := q2) (p := p2) h2 hm2 hx ha (aD hs _ _) (aD hs2 _ _) (by rw [aD hs2]; rfl)
  cases t with
  | true =>
    subst hn
    exact (pe_tupRg hc h1 hm1 k rfl).imp fun σ H Q ⟨p,L,cs,R,q⟩ => ⟨p,L,cs,R,hf _ _ _ _ (fun d cs1 w v p1 H1 R1 x1 r1 => by
      cases d with
      | int i =>
        cases r1
        refine ⟨p1,L,cs1,R1,hg _ _ _ _ (fun d2 cs2 w v2 p2 H2 R2 x2 r2 => ?_) w⟩
        cases d2 with
        | int j =>
          cases r2
          have w1 : 0 <= i /\ i <= 16777216 /\ 0 <= j /\ j <= 16777216 := w.1
          exact ⟨i,j,rfl,rfl,⟨by omega,by omega,by omega,by omega,by omega⟩,fun b hb => w.2 _ p2 H2 _ R2 (x1.trans x2) (.inl ⟨b,_,rfl,hb,rfl,hU i _⟩)⟩
        | _ => exact w.elim
      | _ => exact w.elim) q⟩
  | false =>
    subst hn
    exact (pe_listRg hc h1 hm1 k rfl).imp fun σ H Q ⟨p,L,cs,R,q⟩ => ⟨p,L,cs,R,hf _ _ _ _ (fun d cs1 w v p1 H1 R1 x1 r1 => by
      cases d with
      | int i =>
        cases r1
        refine ⟨p1,L,cs1,R1,hg _ _ _ _ (fun d2 cs2 w v2 p2 H2 R2 x2 r2 => ?_) w⟩
        cases d2 with
        | int j =>
          cases r2
          have w1 : 0 <= i /\ i <= 16777216 /\ 0 <= j /\ j <= 16777216 := w.1
          exact ⟨i,j,rfl,rfl,⟨by omega,by omega,by omega,by omega,by omega⟩,fun b hb => w.2 _ p2 H2 _ R2 (x1.trans x2) ⟨b,_,rfl,hb,rfl,hU i _⟩⟩
        | _ => exact w.elim
      | _ => exact w.elim) q⟩
end
end Sp
set_option autoImplicit true
namespace Sp
open PySem PySem.Spec PyProof.Rows L2
section
variable {K : PySem.W.Frag} {p p' p1 p2 p3 : Pm} {σ : L2.St} {H H' H1 H2 H3 : Hp} {L : Loc} {cs : Cells} {a : Addr}
theorem Rl.poke (R : Rl K (p.with a) σ H L cs) {o : HO} (ho : ∀ vs,o ≠ .tup vs) : Rl K (p.with a) σ (upd H a o) L cs /\ Mv (p.with a) (p.with a) H (upd H a o) := by
  have nM : ∀ {b},¬ (p.with a).M b -> b ≠ a := fun n q => n (.inr (.inr (.inl q)))
  have m : Mv (p.with a) (p.with a) H (upd H a o) := ⟨fun b u e n => ⟨(upd_ne (nM n)).trans e,n⟩,fun _ _ e => e⟩
  refine ⟨⟨R.ok,R.slen,fun i s e => ?_,R.ownL,R.cells.mv m rfl fun b hb hc => upd_ne fun q => ?_,fun b h => ?_⟩,m⟩
  · have q := R.slot i s e
    cases s with
    | no => trivial
    | val d =>
      obtain ⟨v,e1,r⟩ := q
      exact ⟨v,e1,r.mv m⟩
    | own d =>
      obtain ⟨b,e1,e2,c⟩ := q
      exact ⟨b,e1,e2,c.mv m (upd_ne fun q => R.ok.ro a (.inl rfl) i (by rw [<- q]; exact e1))⟩
  · rw [q] at hc
    exact R.ok.rc a (.inl rfl) hc
  · by_cases q : b = a
    · rw [q,upd_same]; exact ⟨Option.some_ne_none _,fun vs e => ho vs (Option.some.inj e)⟩
    · rw [upd_ne q]; exact R.rsv b h
theorem ExtE.strip (x : ExtE (p.with a) p' H H') : ∃ p2,p' = p2.with a /\ ExtE p p2 H H' := by
  refine ⟨⟨p'.cell,p'.own,p.rsv⟩,?_,⟨x.ext.cell,x.ext.keep,x.ext.ownN,rfl,x.ext.dom⟩,x.own,x.keepO⟩
  have e := x.ext.rsv
  obtain ⟨c,o,r⟩ := p'
  have e : r = fun b => b = a \/ p.rsv b := e
  rw [e]
theorem ExtE.poke (x : ExtE p p' H H') (hn : H a = none) (hs : ∀ i b,p.own i = some b -> H b ≠ none) {o : HO} : ExtE p p' H (upd H' a o) :=
  ⟨⟨x.ext.cell,fun b u e h1 h2 => (upd_ne fun q => by rw [q,hn] at e; cases e).trans (x.ext.keep b u e h1 h2),x.ext.ownN,x.ext.rsv,fun b hb => by
    rw [upd_ne fun q => hb (by rw [q]; exact hn)]
    exact x.ext.dom b hb⟩,x.own,fun i b e => (upd_ne fun q => hs i b e (by rw [q]; exact hn)).trans (x.keepO i b e)⟩
theorem ExtE.at (x : ExtE (p.with a) p' H H') (R : Rl K (p.with a) σ H L cs) {o : HO} (h : H a = some o) : H' a = some o :=
  x.ext.keep a o h (R.ok.rc a (.inl rfl)) (R.ok.ro a (.inl rfl))
end
section
variable {K : PySem.W.Frag} {is : List Nat}
mutual
theorem oK : ∀ (t : Tg) {v : V} {σ : L2.St} {H : Hp} {Q : L2.St -> Hp -> Prop},(∀ i ∈ tgSlots t,i ∈ is) -> gTg K t v σ H Q -> gTg K t v σ H fun σ1 H1 => L2.wipe σ1 is = L2.wipe σ is /\ Q σ1 H1
  | .nm i,v,σ,H,Q,hi,q => ⟨pCa σ is _ (hi i (by simp [tgSlots])),q⟩
  | .tp ts,v,σ,H,Q,hi,.inl ⟨a,xs,e,s,l,q⟩ => .inl ⟨a,xs,e,s,l,kA ts hi q⟩
  | .tp ts,v,σ,H,Q,hi,.inr ⟨a,xs,e,s,l,q⟩ => .inr ⟨a,xs,e,s,l,kA ts hi q⟩
theorem kA : ∀ (t : Tgs) {v : List V} {σ : L2.St} {H : Hp} {Q : L2.St -> Hp -> Prop},(∀ i ∈ tgsSlots t,i ∈ is) -> gTgs K t v σ H Q -> gTgs K t v σ H fun σ1 H1 => L2.wipe σ1 is = L2.wipe σ is /\ Q σ1 H1
  | .nil,v,σ,H,Q,hi,⟨e,q⟩ => ⟨e,rfl,q⟩
  | .cons t ts,v,σ,H,Q,hi,⟨a,xs,e,q⟩ => ⟨a,xs,e,cI t (fun σ1 H1 ⟨w1,w⟩ => by
      have := kA ts (fun i z => hi i (by simp [tgsSlots,z])) w
      exact eI ts (fun σ2 H2 ⟨u1,u2⟩ => ⟨u1.trans w1,u2⟩) this) (oK t (fun i z => hi i (by simp [tgsSlots,z])) q)⟩
end
end
def compD (own : List Nat) (g : Tg) (t : Option (CE × SE)) (e : SE) (I : SI) : SE := fun L cs Q => I L cs fun xs st cs1 => (noOwn L own = true /\ xs.length <= sizeLine) /\ compW own g (t.map (·.2)) e st xs L cs1 fun ds cs2 => Q (.lst ds) cs2
def ttOf (K : PySem.W.Frag) : Option (CE × SE) -> TT
  | none => tYes
  | some (c,f) => RB K (tst c f)
theorem lN {K : PySem.W.Frag} {own : List Nat} {e : SE} {p p1 p' : Pm} {σ σ2 : L2.St} {H H1 H3 : Hp} {L L1 : Loc} {cs : Cells} {D : Addr} {acc : List V} {ds : List Sp.D} {W : Sp.D -> Cells -> Prop} {Nx : Hp -> Prop} {n i : Nat}
    (he : SEm e) (R2 : Rl K (p'.with D) σ2 H3 L1 cs) (R : Rl K (p'.with D) σ H3 L cs) (hD : H1 D = none) (hs1 : ∀ i b,p1.own i = some b -> H1 b ≠ none) (h0 : H D = none) (hsH : ∀ i b,p.own i = some b -> H b ≠ none)
    (x1 : ExtE p1 p' H1 H3) (x0 : ExtE p p' H H3) (ha : H3 D = some (.lst acc)) (rs : Reps K (p'.with D) H3 acc ds) (hlen : acc.length < sizeLine) (q : e L1 cs W)
    (nx : ∀ y cs4 v p4 H4,W y cs4 -> Rl K (p4.with D) σ H4 L cs4 -> ExtE p1 p4 H1 H4 -> ExtE p p4 H H4 -> H4 D = some (.lst (acc ++ [v])) -> Reps K (p4.with D) H4 (acc ++ [v]) (ds ++ [y]) -> Nx H4) :
    RE K e σ2 H3 fun y H4 => ∃ acc,H4 D = some (.lst acc) /\ acc.length < sizeLine /\ Nx (upd H4 D (.lst (acc ++ [y]))) := by
  refine ⟨p'.with D,L1,cs,R2,he _ _ _ _ (fun y cs4 w v pz H4 R4 x4 r4 => ?_) q⟩
  obtain ⟨p4,rfl,x4'⟩ := x4.strip
  have hD4 := x4.at R2 ha
  refine ⟨acc,hD4,hlen,?_⟩
  have R5 : Rl K (p4.with D) σ H4 L cs4 := R.move x4 R4.ok R4.cells
  obtain ⟨R6,m6⟩ := R5.poke (o := .lst (acc ++ [v])) (fun _ e => nomatch e)
  refine nx y cs4 v p4 _ w R6 ((x1.trans x4').poke hD hs1) ((x0.trans x4').poke h0 hsH) upd_same ?_
  exact ((rs.mv x4.ext.mv).mv m6).append (.cons (r4.mv m6) .nil)
theorem oN {K : PySem.W.Frag} {own : List Nat} {g : Tg} {t : Option (CE × SE)} {e : SE} {I : SI} {b : Bool} (ht : ∀ c f,t = some (c,f) -> OkV c f) (he : SEm e) (hI : SIm I) (hst : ∀ L cs Q,I L cs Q -> I L cs fun xs st cs1 => st L cs1 /\ Q xs st cs1) (hg : ∀ i ∈ tgSlots g,i ∈ own)
    {σ : L2.St} {H : Hp} {Q : VK} (h : RF K (compD own g t e I) σ H Q) : tLc (RI K b I) (gTg K g) (ttOf K t) (RE K e) own σ H Q := by
  obtain ⟨p,L,cs,R,q⟩ := h
  refine ⟨p,L,cs,R,hI _ _ _ _ (fun xs st cs1 ⟨hst1,q⟩ J p1 H1 R1 x1 wk D hD => ?_) (hst _ _ _ q)⟩
  obtain ⟨⟨hno,hlen⟩,q⟩ := q
  have hs1 : ∀ i b,p1.own i = some b -> H1 b ≠ none := fun i b e => R1.ownSome e
  have h0 : H D = none := by
    cases q : H D with
    | none => rfl
    | some o => exact absurd hD (x1.ext.dom D (by rw [q]; exact Option.some_ne_none o))
  have hsH : ∀ i b,p.own i = some b -> H b ≠ none := fun i b e => R.ownSome e
  have hno1 : ∀ i ∈ own,p1.own i = none := fun i hi => by
    cases e : p1.own i with
    | none => rfl
    | some a =>
      obtain ⟨d,ed⟩ := R1.ownL i a e
      exact absurd ed (jK hno i hi d)
  let Fin : List Sp.D -> Cells -> Prop := fun es cs2 => isOwn (Sp.D.lst es) = true /\ ∀ a p' H',Rl K (p'.with a) σ H' L cs2 -> ExtE p p' H H' -> H a = none -> ¬ p'.M a -> Con K (p'.with a) H' a (.lst es) -> Q (.ref a) H'
  let P : Nat -> Hp -> Prop := fun i H'' => ∃ p' cs' acc ds,Rl K (p'.with D) σ H'' L cs' /\ ExtE p1 p' H1 H'' /\ ExtE p p' H H'' /\ H'' D = some (.lst acc) /\ Reps K (p'.with D) H'' acc ds /\ acc.length <= i /\ st L cs' /\
    compW own g (t.map (·.2)) e st (xs.drop i) L cs' fun es cs2 => Fin (ds ++ es) cs2
  refine ⟨fun i m H' => m = xs.length - i /\ i <= xs.length /\ P i H',⟨xs.length,?_⟩,?_⟩
  · obtain ⟨R2,m2⟩ := R1.more (o := .lst []) hD (fun _ e => nomatch e)
    have x2 := (R1.new (o := .lst []) hD).2
    exact ⟨rfl,Nat.zero_le _,p1,cs1,[],[],R2,x2,x1.trans x2,upd_same,.nil,Nat.le_refl _,hst1,q⟩
  · rintro i m H' ⟨rfl,hi,p',cs',acc,ds,R',xp,xq,hacc,rs,hal,hs,q⟩
    have m1 : Mv p1 (p'.with D) H1 H' := by
      refine ⟨fun a u e n => ?_,fun n a e => xp.ext.mv.cl n a e⟩
      obtain ⟨e1,n1⟩ := xp.ext.mv.at_ a u e n
      refine ⟨e1,?_⟩
      rintro (z | z | z | z)
      · exact n1 (.inl z)
      · exact n1 (.inr (.inl z))
      · rw [z,hD] at e; cases e
      · exact n1 (.inr (.inr z))
    have wki := wk i (p'.with D) σ H' L cs' R' m1 (fun _ => ⟨rfl,xp.own⟩) hs
    by_cases hlt : i < xs.length
    · have hx : xs[i]? = some xs[i] := List.getElem?_eq_getElem hlt
      obtain ⟨go,yl⟩ := wki.2 _ hx
      rw [List.drop_eq_getElem_cons hlt] at q
      refine .inr ⟨go,P (i + 1),fun H'' hn => ⟨xs.length - (i + 1),by omega,rfl,hlt,hn⟩,fun v H'' hy => ?_⟩
      obtain ⟨R2,x2,r2⟩ := yl v H'' hy
      have hacc2 := x2.at R' hacc
      have rs2 := rs.mv x2.ext.mv
      obtain ⟨pz,epz,x2'⟩ := x2.strip
      have hpz : pz = p' := by
        have e1 : (pz.with D).cell = (p'.with D).cell := by rw [<- epz]
        have e2 : (pz.with D).own = (p'.with D).own := by rw [<- epz]
        have e3 : pz.rsv = p'.rsv := x2'.ext.rsv
        obtain ⟨c1,o1,r1⟩ := pz
        obtain ⟨c2,o2,r2⟩ := p'
        cases e1
        cases e2
        cases e3
        rfl
      subst hpz
      have xp2 := xp.trans x2'
      have xq2 := xq.trans x2'
      have Rw := R2.wipe hno
      unfold compW at q
      have a1 := dC g (pz.with D) (L2.wipe σ own) (wipeL own L) v xs[i] _ Rw r2 (fun j hj => by rw [eM]; exact nC hno j (hg j hj)) q
      refine cI g (fun σ2 H2 w => ?_) (oK g hg a1)
      obtain ⟨ew,eH,p3,L1,q,hL1,R3,_,ep⟩ := w
      have eH : H'' = H2 := eH.symm
      subst eH
      have ep := ep fun j hj => by
        show pz.own j = none
        rw [xp.own]
        exact hno1 j (hg j hj)
      subst ep
      refine ⟨ew.trans (pDa σ own),?_⟩
      cases t with
      | none =>
        show (if true = true then RE K e σ2 H'' fun y H4 => ∃ acc,H4 D = some (.lst acc) /\ acc.length < sizeLine /\ P (i + 1) (upd H4 D (.lst (acc ++ [y]))) else P (i + 1) H'')
        rw [if_pos rfl]
        refine (lN (Nx := P (i + 1)) (own := own) (n := 0) (i := 0) he R3 R2 hD hs1 h0 hsH xp2 xq2 hacc2 rs2 (Nat.lt_of_le_of_lt hal (Nat.lt_of_lt_of_le hlt hlen)) q fun y cs4 v4 p4 H4 w R4 x4 x4' h4 rs4 => ?_)
        refine ⟨p4,cs4,_,_,R4,x4,x4',h4,rs4,by rw [List.length_append]; exact Nat.add_le_add hal (Nat.le_refl _),w.1,?_⟩
        exact bI (fun _ z => by simp at z) he _ _ _ _ _ (fun es cs2 z => by rw [List.append_assoc]; exact z) w.2
      | some cf =>
        obtain ⟨c,f⟩ := cf
        have kf := ht c f rfl
        refine ⟨pz.with D,L1,cs',R3,kf.v _ _ _ (kf.m _ _ _ _ (fun d cs5 w => aC (fun b q pz5 H5 R5 x5 => ?_) w) q)⟩
        obtain ⟨p5,rfl,x5'⟩ := x5.strip
        have hacc5 := x5.at R3 hacc2
        have rs5 := rs2.mv x5.ext.mv
        have R6 : Rl K (p5.with D) σ H5 L cs5 := R2.move x5 R5.ok R5.cells
        cases b with
        | true =>
          refine (if_pos rfl).mpr (lN (Nx := P (i + 1)) (own := own) (n := 0) (i := 0) he R5 R6 hD hs1 h0 hsH (xp2.trans x5') (xq2.trans x5') hacc5 rs5 (Nat.lt_of_le_of_lt hal (Nat.lt_of_lt_of_le hlt hlen)) q fun y cs4 v4 p4 H4 w R4 x4 x4' h4 rs4 => ?_)
          refine ⟨p4,cs4,_,_,R4,x4,x4',h4,rs4,by rw [List.length_append]; exact Nat.add_le_add hal (Nat.le_refl _),w.1,?_⟩
          exact bI (fun f' z => by cases z; exact kf.m) he _ _ _ _ _ (fun es cs2 z => by rw [List.append_assoc]; exact z) w.2
        | false => exact (if_neg (by decide)).mpr ⟨p5,cs5,acc,ds,R6,xp2.trans x5',xq2.trans x5',hacc5,rs5,Nat.le_succ_of_le hal,q.1,q.2⟩
    · have hi' : i = xs.length := by omega
      refine .inl ⟨wki.1 hi',?_⟩
      rw [List.drop_eq_nil_of_le (by omega)] at q
      obtain ⟨_,w⟩ : Fin (ds ++ []) cs' := q
      rw [List.append_nil] at w
      refine w D p' H' R' xq h0 ?_ ⟨acc,hacc,rs⟩
      rintro (z | ⟨j,z⟩ | z)
      · exact R'.ok.rc D (.inl rfl) z
      · exact R'.ok.ro D (.inl rfl) j z
      · rw [xp.ext.rsv] at z
        exact (R1.rsv D z).1 hD
end Sp
set_option autoImplicit true
namespace Sp
open PySem PySem.Spec PyProof.Rows L2
def LM.nm : LM -> String
  | .append => "append" | .pop => "pop" | .popAt => "pop" | .extend => "extend" | .insert => "insert" | .remove => "remove"
def LM.id : LM -> String
  | .append => "list.append" | .pop => "list.pop" | .popAt => "list.pop" | .extend => "list.extend" | .insert => "list.insert" | .remove => "list.remove"
def rLM (K : PySem.W.Frag) (m : LM) : V -> List V -> Hp -> VK -> Prop := fun x xs H Q => ∃ p a vs ds es,x = .ref a /\ H a = some (.lst vs) /\ Reps K p H vs ds /\ Reps K p H xs es /\
  ok (lmV m ds es) fun z => ∀ ws y,Reps K p H ws z.1 -> Rep K p H y z.2 -> Q y (upd H a (.lst ws))
theorem Reps.nilV {K : PySem.W.Frag} {p : Pm} {H : Hp} {vs : List V} (h : Reps K p H vs []) : vs = [] := by cases h; rfl
theorem Reps.oneV {K : PySem.W.Frag} {p : Pm} {H : Hp} {vs : List V} {d : D} (h : Reps K p H vs [d]) : ∃ v,vs = [v] /\ Rep K p H v d := by
  cases h with
  | cons h r => cases r; exact ⟨_,rfl,h⟩
theorem Reps.twoV {K : PySem.W.Frag} {p : Pm} {H : Hp} {vs : List V} {d e : D} (h : Reps K p H vs [d,e]) : ∃ v w,vs = [v,w] /\ Rep K p H v d /\ Rep K p H w e := by
  cases h with
  | cons h r =>
    obtain ⟨w,rfl,h2⟩ := r.oneV
    exact ⟨_,_,rfl,h,h2⟩
theorem Reps.dropLast {K : PySem.W.Frag} {p : Pm} {H : Hp} {vs : List V} {ds : List D} (h : Reps K p H vs ds) : Reps K p H vs.dropLast ds.dropLast := by
  rw [List.dropLast_eq_take,List.dropLast_eq_take,h.len]
  exact h.take _
section
variable {X : Cx}
theorem extendA {pins : List (Addr × Obj)} {σ : L2.St} {H : Hp} {s : Shared} {l b : Addr} {xs zs : List V} {Q : VK} (I : Inv X pins σ H s) (hH : H l = some (.lst xs)) (hB : LsX X.K H b zs) (hz : xs.length + zs.length <= sizeLine) (q : Q .non (upd H l (.lst (xs ++ zs)))) :
    wpAny (model X.prog X.w) X.A (call (.builtin "list.extend") [.ref l,.ref b]) (EP X pins σ Q) X.xe s := by
  obtain ⟨z,its,n,r,hl,e⟩ := I.lstM hH
  obtain ⟨its2,n2,r2,hl2,hz2,e2⟩ := lsx I hB
  have hsz : its.toArray.size + its2.toArray.size <= sizeLine := by rw [List.size_toArray,List.size_toArray]; omega
  have hlong : ¬ (!its.toArray.isEmpty && Builtin.List.listTooLong (its.toArray.size + its2.toArray.size)) = true := by
    rw [notLongL hsz,Bool.and_false]
    exact Bool.false_ne_true
  refine call_meets F.slot_list_extend ⟨_,e,rfl⟩ F.entry_list_extend (F.args_list_extend_2 _ _)
    (AutoSeq1.list_extend_list_list_0 l its.toArray n b its2.toArray n2 hlong (by rw [List.size_toArray]; omega) (by omega)) ⟨e,e2,?_⟩
  refine ⟨.non,_,I.lset (its' := its ++ its2) hH e (by simp) (r.append r2) ?_,rfl,q⟩
  rw [List.length_append]
  omega
theorem m9 (hu : X.A.units + 64 < cLine) (m : LM) : MtR X m.id (rLM X.K m) := by
  intro pins s σ H x xs v us Q I rx rv h
  obtain ⟨p,a,vs,ds,es,rfl,hH,rs,re,h⟩ := h
  cases m with
  | append =>
    match es,h with
    | [d],h =>
      obtain ⟨hz,h⟩ := (show _ /\ _ from h)
      obtain ⟨y,rfl,ry⟩ := re.oneV
      exact mt_append pins s σ H _ _ v us Q I rx rv ⟨a,vs,y,rfl,rfl,hH,by rw [rs.len]; exact hz,h _ _ (rs.append (.cons ry .nil)) .non⟩
  | pop =>
    match es,h with
    | [],h =>
      have := re.nilV
      subst this
      have h : ok (match ds[ds.length - 1]? with
        | some y => yes (ds.dropLast,y)
        | none => none) _ := h
      cases e : ds[ds.length - 1]? with
      | none => rw [e] at h; exact h.elim
      | some y =>
        rw [e] at h
        obtain ⟨w,hw,rw'⟩ := rs.get e
        rw [<- rs.len] at hw
        exact mt_pop pins s σ H _ _ v us Q I rx rv ⟨a,vs,w,rfl,rfl,hH,hw,h.2 _ _ rs.dropLast rw'⟩
  | popAt =>
    match es,h with
    | [.int i],h =>
      obtain ⟨y,rfl,ry⟩ := re.oneV
      cases ry
      have h : ok (match seqIndex? i ds.length with
        | some j => match ds[j]? with
          | some y => some (-(2 ^ 63) <= i /\ i < 2 ^ 63,ds.eraseIdx j,y)
          | none => none
        | none => none) _ := h
      cases e : seqIndex? i ds.length with
      | none => rw [e] at h; exact h.elim
      | some j =>
        rw [e] at h
        simp only at h
        cases e2 : ds[j]? with
        | none => rw [e2] at h; exact h.elim
        | some y =>
          rw [e2] at h
          obtain ⟨w,hw,rw'⟩ := rs.get e2
          exact mt_popAt pins s σ H _ _ v us Q I rx rv ⟨a,vs,i,j,w,rfl,rfl,hH,h.1.1,h.1.2,by rw [rs.len]; exact e,hw,h.2 _ _ (rs.erase j) rw'⟩
  | extend =>
    match es,h with
    | [.lst ys],h =>
      obtain ⟨hz,h⟩ := (show _ /\ _ from h)
      obtain ⟨y,rfl,ry⟩ := re.oneV
      obtain ⟨b,ws,rfl,hb,rb⟩ := ry.seen
      cases rx
      obtain ⟨u,rfl,ru⟩ := rv.one
      cases ru
      exact extendA I hH hb (by rw [rs.len,rb.len]; exact hz) (h _ _ (rs.append rb) .non)
  | insert =>
    match es,h with
    | [.int i,d],h =>
      obtain ⟨hz,h⟩ := (show _ /\ _ from h)
      obtain ⟨y,w,rfl,ry,rw'⟩ := re.twoV
      cases ry
      refine mt_insert pins s σ H _ _ v us Q I rx rv ⟨a,vs,i,w,rfl,rfl,hH,by rw [rs.len]; exact hz.1,hz.2.1,hz.2.2,h _ _ ?_ .non⟩
      rw [List.append_assoc]
      exact (rs.take _).append (.cons rw' (rs.drop _))
  | remove =>
    match es,h with
    | [d],h =>
      obtain ⟨y,rfl,ry⟩ := re.oneV
      have h : ok (match D.pys ds,d.py with
        | some ps,some q => match ps.findIdx? fun y => PyData.eqv y q with
          | some j => some (min (D.deps ds) d.dep <= 60 /\ ds.length <= sizeLine,ds.eraseIdx j,D.non)
          | none => none
        | _,_ => none) _ := h
      cases e1 : D.pys ds with
      | none => rw [e1] at h; exact h.elim
      | some ps =>
        cases e2 : d.py with
        | none => rw [e1,e2] at h; exact h.elim
        | some q =>
          rw [e1,e2] at h
          simp only at h
          cases e3 : ps.findIdx? fun y => PyData.eqv y q with
          | none => rw [e3] at h; exact h.elim
          | some j =>
            rw [e3] at h
            obtain ⟨hz,h⟩ := (show _ /\ _ from h)
            cases rx
            obtain ⟨w,rfl,rw'⟩ := rv.one
            obtain ⟨z,its,n,r,hl,e⟩ := I.lstM hH
            obtain ⟨as,ra⟩ := Dp.readsAll I ps vs its (Reps.dp rs e1) r
            obtain ⟨bs,rb⟩ := Dp.reads I q y w (Rep.dp ry e2) rw'
            obtain ⟨x1,x2⟩ := bB e1
            obtain ⟨y1,y2⟩ := aG e2
            refine SeqAt.remove_list_data (xs := ps) (d := q) (j := j) ⟨_,e,rfl,n,rfl⟩ (by rw [List.toList_toArray]; exact ra) rb x2 y2 (by rw [x1,y1]; omega) e3 (by rw [List.size_toArray,<- hl]; exact z) ?_
            exact ⟨.non,_,I.lset (its' := its.eraseIdx j) hH e (by rw [Array.eraseIdxIfInBounds]; simp; exact fun z => (List.eraseIdx_of_length_le z).symm) (r.eraseIdx j) (by rw [List.length_eraseIdx]; split <;> omega),rfl,h _ _ (rs.erase j) .non⟩
theorem mX (m : LM) : PySem.Slot "list" m.nm m.id := by
  cases m
  · exact F.slot_list_append
  · exact F.slot_list_pop
  · exact F.slot_list_pop
  · exact F.slot_list_extend
  · exact F.slot_list_insert
  · exact F.slot_list_remove
theorem mY (m : LM) : typeOf (.builtin m.id) = pure (.type "method_descriptor") := by
  cases m
  · exact F.type_list_append
  · exact F.type_list_pop
  · exact F.type_list_pop
  · exact F.type_list_extend
  · exact F.type_list_insert
  · exact F.type_list_remove
theorem eJ {K : PySem.W.Frag} {H : Hp} {a : Addr} {vs : List V} (h : H a = some (.lst vs)) : tyV K "list" (.ref a) H := .inl ⟨rfl,vs,.inl (.inl h)⟩
def fewB (es : List Expr) : Bool := decide (es.length < 29)
theorem aX {es : List Expr} {cpos : Pos} {env : Env} (h : es.all (fun e => !starred e) = true) (hl : fewB es = true) :
    ((backTo cpos (starEach es env)).all (fun x => !x.1) && (backToKw cpos (keywordEach [] env)).all (fun x => x.1.isSome)
      && decide (es.length + ([] : List Keyword).length + (if ([] : List Keyword).isEmpty then 0 else 1) < 30)) = true := by
  have h1 : (backTo cpos (starEach es env)).all (fun x => !x.1) = true := by
    have := b0 (env := env) h (pos := cpos)
    rw [List.all_eq_true]
    intro x hx
    have h2 := List.any_eq_false.mp this x hx
    simpa using h2
  have hl := of_decide_eq_true hl
  rw [h1]
  have : es.length + ([] : List Keyword).length + (if ([] : List Keyword).isEmpty then 0 else 1) < 30 := by
    simp only [List.length_nil,List.isEmpty_nil]
    simp
    omega
  simp only [Bool.true_and,Bool.and_eq_true]
  exact ⟨rfl,decide_eq_true this⟩
def baseB : Expr -> Bool
  | .Call (.Name _ _) [] [] _ => false
  | _ => true
theorem aO {o : Expr} (h : baseB o = true) (n : Str) (env : Env) (w : Sem Value) : attributeBase o n env w = w := by
  unfold attributeBase
  split
  · cases h
  · rfl
theorem gBa {x : Expr} (h : (!starred x) = true) : starred x = false := by simpa using h
theorem jN (hu : X.A.units + 64 < cLine) {o : Expr} {to : TE} {apos cpos : Pos} {name : Str} (m : LM) (hn : name = (m.nm : Str)) (ho : PE X o to) (hb : baseB o = true) (hl : (apos.endLine == cpos.line) = true) :
    PE X (.Call (.Attribute o name apos) [] [] cpos) (tBM0 X.K "list" (rLM X.K m) to) := by
  subst hn
  exact pe_bm0 F.plainAttrs_list (mX m) (mY m) (m9 hu m) ho (aO hb _ _ _) hl
theorem nO (hu : X.A.units + 64 < cLine) {o e : Expr} {es : List Expr} {to : TE} {t : TA} {apos cpos : Pos} {name : Str} (m : LM) (hn : name = (m.nm : Str)) (ho : PE X o to) (ha : PA X (e :: es) t) (hb : baseB o = true) (hl : (apos.endLine == cpos.line) = true) (hs : (e :: es).all (fun e => !starred e) = true) (hf : fewB (e :: es) = true) :
    PE X (.Call (.Attribute o name apos) (e :: es) [] cpos) (tBM X.K "list" (rLM X.K m) to t) := by
  subst hn
  have hs' := hs
  rw [List.all_cons,Bool.and_eq_true] at hs
  exact pe_bm F.plainAttrs_list (mX m) (mY m) (m9 hu m) ho ha (aO hb _ _ _) (aX hs' hf) hl (aD (gBa hs.1) _ _) (b0 hs.2)
def mthW (m : LM) (f : SE) (F : Loc -> Cells -> (List D -> Cells -> Prop) -> Prop) : SE := fun L cs Q => f L cs fun d cs1 => match d with
  | .ref n => (∃ xs,cs1[n]? = some (.seq xs)) /\ F L cs1 fun ds cs2 => match cs2[n]? with
    | some (.seq xs) => ok (lmV m xs ds) fun z => Q z.2 (cs2.set n (.seq z.1))
    | _ => False
  | _ => False
theorem oS {p : Pm} {H : Hp} {a : Addr} {o : HO} (hM : p.M a) : Mv p p H (upd H a o) := ⟨fun b u e n => ⟨(upd_ne fun q => n (by rw [q]; exact hM)).trans e,n⟩,fun _ _ e => e⟩
theorem oR {H : Hp} {a b : Addr} {o : HO} (h : H b ≠ none) : upd H a o b ≠ none := by
  by_cases q : b = a
  · rw [q,upd_same]; exact Option.some_ne_none _
  · rw [upd_ne q]; exact h
theorem oQ {H : Hp} {a b : Addr} {o : HO} (h : Bx (H b)) (ho : ∀ vs,o ≠ .tup vs) : Bx (upd H a o b) := by
  by_cases q : b = a
  · rw [q,upd_same]; exact ⟨Option.some_ne_none _,fun vs e => ho vs (Option.some.inj e)⟩
  · rw [upd_ne q]; exact h
theorem Rl.setCellG {K : PySem.W.Frag} {p : Pm} {σ : L2.St} {H : Hp} {L : Loc} {cs : Cells} {n : Nat} {a : Addr} {o : HO} {c' : Cell} (R : Rl K p σ H L cs) (hc : p.cell[n]? = some a) (ho : ∀ vs,o ≠ .tup vs) (r : Mv p p H (upd H a o) -> CellOk K p (upd H a o) a c') :
    Rl K p σ (upd H a o) L (cs.set n c') /\ ExtE p p H (upd H a o) := by
  have hm : a ∈ p.cell := List.mem_of_getElem? hc
  have m : Mv p p H (upd H a o) := oS (.inl hm)
  have x : ExtE p p H (upd H a o) := ⟨⟨⟨[],by simp,by simp⟩,fun b u e h _ => (upd_ne fun q => h (by rw [q]; exact hm)).trans e,fun i b e => .inl ⟨i,e⟩,rfl,fun b => oR⟩,rfl,fun i b e => upd_ne fun q => R.ok.oc i b e (by rw [q]; exact hm)⟩
  refine ⟨⟨R.ok,R.slen,fun i s e => ?_,R.ownL,⟨by rw [List.length_set]; exact R.cells.len,fun k c b e1 e2 => ?_⟩,fun b h => oQ (R.rsv b h) ho⟩,x⟩
  · have q := R.slot i s e
    cases s with
    | no => trivial
    | val d =>
      obtain ⟨v,e1,r⟩ := q
      exact ⟨v,e1,r.mv m⟩
    | own d =>
      obtain ⟨b,e1,e2,c⟩ := q
      exact ⟨b,e1,e2,c.mv m (x.keepO i b e1)⟩
  · by_cases hk : k = n
    · subst hk
      rw [hc] at e2
      cases e2
      have hl : k < cs.length := by rw [<- R.cells.len]; exact (List.getElem?_eq_some_iff.mp hc).1
      rw [List.getElem?_set_self hl] at e1
      cases e1
      exact r m
    · rw [List.getElem?_set_ne (Ne.symm hk)] at e1
      refine (R.cells.at_ k c b e1 e2).mv m (upd_ne fun q => hk ?_)
      rw [q] at e2
      obtain ⟨h1,e1'⟩ := List.getElem?_eq_some_iff.mp e2
      obtain ⟨h2,e2'⟩ := List.getElem?_eq_some_iff.mp hc
      exact (List.getElem_inj R.ok.nd).mp (e1'.trans e2'.symm)
theorem Rl.setCell {K : PySem.W.Frag} {p : Pm} {σ : L2.St} {H : Hp} {L : Loc} {cs : Cells} {n : Nat} {a : Addr} {ws : List V} {ys : List D} (R : Rl K p σ H L cs) (hc : p.cell[n]? = some a) (r : Reps K p H ws ys) :
    Rl K p σ (upd H a (.lst ws)) L (cs.set n (.seq ys)) /\ ExtE p p H (upd H a (.lst ws)) := R.setCellG hc (fun _ e => nomatch e) fun m => ⟨ws,upd_same,r.mv m⟩
theorem Rl.setOwnG {K : PySem.W.Frag} {p : Pm} {σ : L2.St} {H : Hp} {L : Loc} {cs : Cells} {i : Nat} {d z : D} {a : Addr} {o : HO} (R : Rl K p σ H L cs) (ho : p.own i = some a) (hl : L[i]? = some (.own d)) (hnt : ∀ vs,o ≠ .tup vs) (r : Mv p p H (upd H a o) -> Con K p (upd H a o) a z) :
    Rl K p σ (upd H a o) (L.set i (.own z)) cs /\ Ext p p H (upd H a o) := by
  have hi : i < L.length := (List.getElem?_eq_some_iff.mp hl).1
  have m : Mv p p H (upd H a o) := oS (.inr (.inl ⟨i,ho⟩))
  have x : Ext p p H (upd H a o) := ⟨⟨[],by simp,by simp⟩,fun b u e _ h => (upd_ne fun q => h i (by rw [q]; exact ho)).trans e,fun i b e => .inl ⟨i,e⟩,rfl,fun b => oR⟩
  refine ⟨⟨R.ok,by rw [List.length_set]; exact R.slen,fun j s e => ?_,fun j b e => ?_,R.cells.mv m rfl fun b hb hc => upd_ne fun q => R.ok.oc i a ho (by rw [<- q]; exact hc),fun b h => oQ (R.rsv b h) hnt⟩,x⟩
  · by_cases hj : j = i
    · subst hj
      rw [List.getElem?_set_self hi] at e
      cases e
      obtain ⟨b,e1,e2,c⟩ := R.slot j _ hl
      rw [ho] at e1
      cases e1
      exact ⟨a,ho,e2,r m⟩
    · rw [List.getElem?_set_ne (Ne.symm hj)] at e
      have q := R.slot j s e
      cases s with
      | no => trivial
      | val d =>
        obtain ⟨v,e1,r⟩ := q
        exact ⟨v,e1,r.mv m⟩
      | own d =>
        obtain ⟨b,e1,e2,c⟩ := q
        exact ⟨b,e1,e2,c.mv m (upd_ne fun q => hj (R.ok.inj j i a (by rw [<- q]; exact e1) ho))⟩
  · by_cases hj : j = i
    · subst hj
      exact ⟨_,List.getElem?_set_self hi⟩
    · obtain ⟨d',e'⟩ := R.ownL j b e
      exact ⟨d',by rw [List.getElem?_set_ne (Ne.symm hj)]; exact e'⟩
theorem Rl.setOwn {K : PySem.W.Frag} {p : Pm} {σ : L2.St} {H : Hp} {L : Loc} {cs : Cells} {i : Nat} {d : D} {a : Addr} {ws : List V} {ys : List D} (R : Rl K p σ H L cs) (ho : p.own i = some a) (hl : L[i]? = some (.own d)) (r : Reps K p H ws ys) :
    Rl K p σ (upd H a (.lst ws)) (L.set i (.own (.lst ys))) cs /\ Ext p p H (upd H a (.lst ws)) := R.setOwnG ho hl (fun _ e => nomatch e) fun m => ⟨ws,upd_same,r.mv m⟩
theorem dE {K : PySem.W.Frag} {p : Pm} {σ : L2.St} {H : Hp} {L : Loc} {cs : Cells} {n : Nat} {a : Addr} {xs : List D} (R : Rl K p σ H L cs) (hc : p.cell[n]? = some a) (e : cs[n]? = some (.seq xs)) : ∃ vs,H a = some (.lst vs) /\ Reps K p H vs xs :=
  R.cells.at_ n (.seq xs) a e hc
theorem jPa (hu : X.A.units + 64 < cLine) {o e : Expr} {es : List Expr} {f : SE} {F : Loc -> Cells -> (List D -> Cells -> Prop) -> Prop} {apos cpos : Pos} {name : Str} (m : LM) (hf : SEm f) (hF : SLm F) (hn : name = (m.nm : Str)) (ho : PE X o (RE X.K f)) (ha : PA X (e :: es) (RAs X.K F)) (hb : baseB o = true) (hl : (apos.endLine == cpos.line) = true) (hs : (e :: es).all (fun e => !starred e) = true) (hfw : fewB (e :: es) = true) :
    PE X (.Call (.Attribute o name apos) (e :: es) [] cpos) (RE X.K (mthW m f F)) :=
  (nO hu m hn ho ha hb hl hs hfw).imp fun σ H Q ⟨p,L,cs,R,q⟩ => ⟨p,L,cs,R,hf _ _ _ _ (fun d cs1 w v p1 H1 R1 x1 r1 => by
    cases d with
    | ref n =>
      obtain ⟨⟨xs,e1⟩,w⟩ := w
      cases r1 with
      | ref hc =>
        rename_i a
        obtain ⟨vs,h1,_⟩ := dE R1 hc e1
        refine ⟨eJ h1,p1,L,cs1,R1,hF _ _ _ _ (fun ds cs2 w ws p2 H2 R2 x2 r2 => ?_) w⟩
        have hc2 := x2.ext.mv.cl n a hc
        split at w
        · rename_i ys e2
          obtain ⟨vs2,h2,rs2⟩ := dE R2 hc2 e2
          refine ⟨p2,a,vs2,ys,ds,rfl,h2,rs2,r2,aC (fun z w ws' y rw' ry => ?_) w⟩
          obtain ⟨R3,x3⟩ := R2.setCell hc2 rw'
          exact w _ _ _ R3 ((x1.trans x2).trans x3) (ry.mv x3.ext.mv)
        · exact w.elim
    | _ => exact w.elim) q⟩
theorem jQa (hu : X.A.units + 64 < cLine) {o : Expr} {f : SE} {apos cpos : Pos} {name : Str} (m : LM) (hf : SEm f) (hn : name = (m.nm : Str)) (ho : PE X o (RE X.K f)) (hb : baseB o = true) (hl : (apos.endLine == cpos.line) = true) :
    PE X (.Call (.Attribute o name apos) [] [] cpos) (RE X.K (mthW m f fun _ cs Q => Q [] cs)) :=
  (jN hu m hn ho hb hl).imp fun σ H Q ⟨p,L,cs,R,q⟩ => ⟨p,L,cs,R,hf _ _ _ _ (fun d cs1 w v p1 H1 R1 x1 r1 => by
    cases d with
    | ref n =>
      obtain ⟨⟨xs,e1⟩,w⟩ := w
      cases r1 with
      | ref hc =>
        rename_i a
        obtain ⟨vs,h1,rs1⟩ := dE R1 hc e1
        refine ⟨eJ h1,?_⟩
        simp only [e1] at w
        refine ⟨p1,a,vs,xs,[],rfl,h1,rs1,.nil,aC (fun z w ws' y rw' ry => ?_) w⟩
        obtain ⟨R3,x3⟩ := R1.setCell hc rw'
        exact w _ _ _ R3 (x1.trans x3) (ry.mv x3.ext.mv)
    | _ => exact w.elim) q⟩
def RepPl (p : Pm) (L : Loc) (v : V) : Pl -> Prop
  | .slot i => ∃ a d,v = .ref a /\ p.own i = some a /\ L[i]? = some (.own d)
  | .cell n => ∃ a,v = .ref a /\ p.cell[n]? = some a
theorem RepPl.mv {p p' : Pm} {H H' : Hp} {L : Loc} {v : V} (x : ExtE p p' H H') : ∀ {pl : Pl},RepPl p L v pl -> RepPl p' L v pl
  | .slot i,⟨a,d,e,h,l⟩ => ⟨a,d,e,by rw [x.own]; exact h,l⟩
  | .cell n,⟨a,e,h⟩ => ⟨a,e,x.ext.mv.cl n a h⟩
theorem jR {c : CE} {f : SE} (hf : SEm f) {L : Loc} {cs : Cells} {Q : Pl -> Cells -> Prop} (h : plc c f L cs Q) : opd c f L cs fun u cs1 => ∃ pl,(∀ K p H v,RepO K p H L v u -> RepPl p L v pl) /\ Q pl cs1 := by
  unfold plc at h
  refine aB hf (fun u cs1 q => ?_) h
  match u,q with
  | .o i d,q => exact ⟨.slot i,fun K p H v ⟨a,e,h1,h2⟩ => ⟨a,d,e,h1,h2⟩,q⟩
  | .v (.ref n),q => exact ⟨.cell n,fun K p H v r => by
      cases r with
      | ref h => exact ⟨_,rfl,h⟩,q⟩
theorem m5 {K : PySem.W.Frag} {p : Pm} {σ : L2.St} {H : Hp} {L : Loc} {cs : Cells} {v : V} {pl : Pl} (R : Rl K p σ H L cs) (r : RepPl p L v pl) (h : lsAt pl L cs) : ∃ a vs,v = .ref a /\ H a = some (.lst vs) := by
  cases pl with
  | slot i =>
    obtain ⟨xs,e⟩ := h
    obtain ⟨a,d,rfl,ho,hl⟩ := r
    obtain ⟨b,e1,e2,vs,hv,_⟩ := R.slot i _ e
    rw [ho] at e1
    cases e1
    exact ⟨a,vs,rfl,hv⟩
  | cell n =>
    obtain ⟨xs,e⟩ := h
    obtain ⟨a,rfl,hc⟩ := r
    obtain ⟨vs,hv,_⟩ := dE R hc e
    exact ⟨a,vs,rfl,hv⟩
theorem kX {K : PySem.W.Frag} {p : Pm} {σ : L2.St} {H : Hp} {L : Loc} {cs : Cells} {v : V} {pl : Pl} {f : List D -> Vo (List D × D)} {Q : Loc -> Cells -> Prop} (R : Rl K p σ H L cs) (r : RepPl p L v pl) (h : chg pl L cs f Q) :
    ∃ a vs ds,v = .ref a /\ H a = some (.lst vs) /\ Reps K p H vs ds /\ ok (f ds) fun z => ∀ ws,Reps K p H ws z.1 -> ∃ L' cs',Q L' cs' /\ L'.length = L.length /\ Rl K p σ (upd H a (.lst ws)) L' cs' /\ Ext p p H (upd H a (.lst ws)) := by
  unfold chg at h
  cases pl with
  | slot i =>
    simp only at h
    split at h
    · rename_i xs e
      obtain ⟨a,d,rfl,ho,hl⟩ := r
      obtain ⟨b,e1,e2,vs,hv,rs⟩ := R.slot i _ e
      rw [ho] at e1
      cases e1
      refine ⟨a,vs,xs,rfl,hv,rs,aC (fun z q ws rw' => ?_) h⟩
      obtain ⟨R2,x2⟩ := R.setOwn ho e rw'
      exact ⟨_,cs,q,List.length_set ..,R2,x2⟩
    · exact h.elim
  | cell n =>
    simp only at h
    split at h
    · rename_i xs e
      obtain ⟨a,rfl,hc⟩ := r
      obtain ⟨vs,hv,rs⟩ := dE R hc e
      refine ⟨a,vs,xs,rfl,hv,rs,aC (fun z q ws rw' => ?_) h⟩
      obtain ⟨R2,x2⟩ := R.setCell hc rw'
      exact ⟨L,_,q,rfl,R2,x2.ext⟩
    · exact h.elim
theorem bEa {K : PySem.W.Frag} {p : Pm} {H : Hp} {a : Addr} {c : Cell} {d : D} (e : c.d = some d) (h : CellOk K p H a c) : Con K p H a d := by
  cases c <;> cases e <;> exact h
theorem bQa {K : PySem.W.Frag} {p : Pm} {H : Hp} {a : Addr} {c : Cell} {d : D} (e : d.cell = some c) (h : Con K p H a d) : CellOk K p H a c := by
  cases d <;> cases e <;> exact h
theorem lWa {K : PySem.W.Frag} {p : Pm} {σ : L2.St} {H : Hp} {L : Loc} {cs : Cells} {v : V} {pl : Pl} {f : D -> Vo D} {Q : Loc -> Cells -> Prop} (R : Rl K p σ H L cs) (r : RepPl p L v pl) (h : sto pl L cs f Q) :
    ∃ a d,v = .ref a /\ Con K p H a d /\ ok (f d) fun z => ∀ o,(∀ vs,o ≠ .tup vs) -> (Mv p p H (upd H a o) -> Con K p (upd H a o) a z) -> ∃ L' cs',Q L' cs' /\ L'.length = L.length /\ Rl K p σ (upd H a o) L' cs' /\ Ext p p H (upd H a o) := by
  unfold sto at h
  cases pl with
  | slot i =>
    simp only at h
    split at h
    · rename_i xs e
      obtain ⟨a,d,rfl,ho,hl⟩ := r
      obtain ⟨b,e1,e2,hc⟩ := R.slot i _ e
      rw [ho] at e1
      cases e1
      refine ⟨a,xs,rfl,hc,aC (fun z q o hnt rw' => ?_) h⟩
      obtain ⟨R2,x2⟩ := R.setOwnG ho e hnt rw'
      exact ⟨_,cs,q.2,List.length_set ..,R2,x2⟩
    · exact h.elim
  | cell n =>
    simp only at h
    split at h
    · rename_i c e
      cases e2 : c.d with
      | none =>
        rw [e2] at h
        exact h.elim
      | some d =>
        rw [e2] at h
        obtain ⟨a,rfl,hc⟩ := r
        have hC := bEa e2 (R.cells.at_ n c a e hc)
        refine ⟨a,d,rfl,hC,aC (fun z q o hnt rw' => ?_) h⟩
        cases e3 : z.cell with
        | none => rw [e3] at q; exact q.elim
        | some c' =>
          rw [e3] at q
          obtain ⟨R2,x2⟩ := R.setCellG hc hnt fun m => bQa e3 (rw' m)
          exact ⟨L,_,q,rfl,R2,x2.ext⟩
    · exact h.elim
def sdefW (f g h : SE) : SE := fun L cs Q => f L cs fun d cs1 => match d with
    | .ref n => (∃ kvs,cs1[n]? = some (.map kvs)) /\ g L cs1 fun kd cs2 => h L cs2 fun z cs3 => match cs3[n]?,keyK kd with
      | some (.map kvs),some kk => kvs.length < sizeLine /\ match dGet kvs kk with
        | some u => Q u cs3
        | none => Q z (cs3.set n (.map (dPut kvs kk z)))
      | _,_ => False
    | _ => False
theorem jWa {X : Cx} {o y z : Expr} {f g h : SE} {apos cpos : Pos} (hf : SEm f) (hg : SEm g) (hh : SEm h) (ho : PE X o (RE X.K f)) (hy : PE X y (RE X.K g)) (hz : PE X z (RE X.K h)) (m : M2 X o "setdefault" apos y z cpos) :
    PE X (.Call (.Attribute o "setdefault" apos) [y,z] [] cpos) (RE X.K (sdefW f g h)) :=
  (pe_dsetd ho hy hz m).imp fun σ H Q ⟨p,L,cs,R,q⟩ => ⟨p,L,cs,R,hf _ _ _ _ (fun d cs1 w v p1 H1 R1 x1 r1 => by
    cases d with
    | ref n =>
      obtain ⟨⟨kvs,e1⟩,w⟩ := w
      cases r1 with
      | ref hc =>
        rename_i a
        obtain ⟨vs,h1,_⟩ := R1.cells.at_ n (.map kvs) a e1 hc
        refine ⟨a,rfl,.inl ⟨vs,.inl h1⟩,p1,L,cs1,R1,hg _ _ _ _ (fun kd cs2 w v2 p2 H2 R2 x2 r2 => ⟨p2,L,cs2,R2,hh _ _ _ _ (fun zd cs3 w v3 p3 H3 R3 x3 r3 => ?_) w⟩) w⟩
        have hc3 := x3.ext.mv.cl n a (x2.ext.mv.cl n a hc)
        split at w
        · rename_i kvs3 kk e2 e3
          obtain ⟨vs3,h3,rs3⟩ := R3.cells.at_ n (.map kvs3) a e2 hc3
          have rel := rs3.x.get kk
          have rz := r3
          refine ⟨vs3,kk,h3,dP e3 (r2.mv x3.ext.mv),by rw [rs3.x.len]; exact w.1,fun u hu => ?_,fun hn => ?_⟩
          · rw [hu] at rel
            cases e4 : dGet kvs3 kk with
            | none => rw [e4] at rel; exact rel.elim
            | some ud =>
              rw [e4] at rel
              have w2 := w.2
              rw [e4] at w2
              exact w2 _ p3 H3 R3 ((x1.trans x2).trans x3) rel
          · rw [hn] at rel
            cases e4 : dGet kvs3 kk with
            | some ud => rw [e4] at rel; exact rel.elim
            | none =>
              have w2 := w.2
              rw [e4] at w2
              obtain ⟨R4,x4⟩ := R3.setCellG (o := .dK (putK vs3 kk v3)) (c' := .map (dPut kvs3 kk zd)) hc3 (fun _ e => nomatch e) fun m => ⟨_,upd_same,((rs3.x.put kk rz).k).mv m⟩
              exact w2 _ _ _ R4 (((x1.trans x2).trans x3).trans x4) (r3.mv x4.ext.mv)
        · exact w.elim
    | _ => exact w.elim) q⟩
def lidxW (a : CE) (f g : SE) : SE := fun L cs Q => opd a f L cs fun u cs1 => lstB (view cs1 u) = true /\ g L cs1 fun d cs2 => ok (idxV (view cs2 u) d) fun r => Q r cs2
theorem lW {K : PySem.W.Frag} {p : Pm} {H : Hp} {d : D} {v : V} (r : Rep K p H v d) (h : flatD d = true) : flatV v = true := by
  cases d with
  | int i => cases r; rfl
  | str x => cases r; rfl
  | _ => cases h
theorem lQ {K : PySem.W.Frag} {p p' : Pm} {H H' : Hp} {d e : D} {v w : V} (r : Rep K p H v d) (q : Rep K p' H' w e) (h : flatD d = true) (g : flatD e = true) : L2.eqV v w = eqF d e := by
  cases d with
  | int i =>
    cases r
    cases e with
    | int j => cases q; rfl
    | str y => cases q; rfl
    | _ => cases g
  | str x =>
    cases r
    cases e with
    | int j => cases q; rfl
    | str y => cases q; rfl
    | _ => cases g
  | _ => cases h
theorem lX {K : PySem.W.Frag} {p : Pm} {H : Hp} : ∀ {vs : List V} {ds : List D},Reps K p H vs ds -> ds.all flatD = true -> vs.all flatV = true
  | _,_,.nil,_ => rfl
  | _,_,.cons r t,h => by
    rw [List.all_cons,Bool.and_eq_true] at h ⊢
    exact ⟨lW r h.1,lX t h.2⟩
theorem jLa {X : Cx} {a : CE} {x y : Expr} {f g : SE} {apos cpos : Pos} (hf : SEm f) (hg : SEm g) (ha : PE X x (RO X.K a f)) (hb : PE X y (RE X.K g)) (hs : starred y = false) (hx : baseB x = true) (hl : (apos.endLine == cpos.line) = true) :
    PE X (.Call (.Attribute x "index" apos) [y] [] cpos) (RE X.K (lidxW a f g)) :=
  (pe_bm PySem.F.plainAttrs_list PySem.F.slot_list_index PySem.F.type_list_index mt_index ha (pa_cons hb pa_nil (aD hs _ _)) (aO hx _ _ _) (aX (by simp [hs]) (by simp [fewB])) hl (aD hs _ _) rfl).imp fun σ H Q ⟨p,L,cs,R,q⟩ => ⟨p,L,cs,R,aB hf (fun u cs1 w v1 p1 H1 R1 x1 r1 => by
    refine ⟨?_,⟨p1,L,cs1,R1,hg _ _ _ _ (fun d cs2 w v2 p2 H2 R2 x2 r2 => ?_) w.2⟩⟩
    · have s1 := R1.view r1
      have w1 := w.1
      generalize view cs1 u = e at s1 w1
      cases e with
      | lst ds =>
        obtain ⟨l,vs,rfl,hl,_⟩ := s1
        exact .inl ⟨rfl,vs,hl.sq⟩
      | _ => cases w1
    · have s2 := R2.view (r1.mv x2)
      generalize view cs2 u = e at s2 w
      cases e with
      | lst ds =>
        obtain ⟨l,vs,rfl,hl,rs⟩ := s2
        have w : ok (if flatD d && ds.all flatD then opt ((ds.findIdx? fun z => eqF z d).map fun j : Nat => D.int (j : Int)) else none) _ := w
        cases hf : flatD d && ds.all flatD with
        | false => rw [hf] at w; exact w.elim
        | true =>
          rw [hf,if_pos rfl] at w
          rw [Bool.and_eq_true] at hf
          cases hj : ds.findIdx? fun z => eqF z d with
          | none => rw [hj] at w; exact w.elim
          | some j =>
            rw [hj] at w
            obtain ⟨hjl,hje,hjn⟩ := List.findIdx?_eq_some_iff_getElem.mp hj
            obtain ⟨z,hz,rz⟩ := rs.get (List.getElem?_eq_getElem hjl)
            have fl : ∀ (i : Nat) (h : i < ds.length),flatD ds[i] = true := fun i h => List.all_eq_true.mp hf.2 _ (List.getElem_mem h)
            refine ⟨l,vs,v2,j,z,rfl,rfl,hl.sq,lW r2 hf.1,lX rs hf.2,hz,(lQ rz r2 (fl j hjl) hf.1).trans hje,fun m z' hm hz' => ?_,w.2 _ p2 H2 R2 (x1.trans x2) (.int _)⟩
            have hml : m < ds.length := by omega
            obtain ⟨z2,hz2,rz2⟩ := rs.get (List.getElem?_eq_getElem hml)
            rw [hz'] at hz2
            cases hz2
            rw [lQ rz2 r2 (fl m hml) hf.1]
            have := hjn m hm
            simpa using this
      | _ => exact (show False from w).elim) q⟩
theorem hXa {K : PySem.W.Frag} {p : Pm} {H : Hp} {v : V} {d r : D} (h : Rep K p H v d) (e : othV d = some r) : ∃ z,othW v = some z /\ ∀ p' H',Rep K p' H' z r := by
  cases d with
  | non =>
    cases h
    cases e
    exact ⟨.non,rfl,fun _ _ => .non⟩
  | int i =>
    cases h
    have e : (if i = 1 then some (D.int 0) else if i = 0 then some (D.int 1) else none) = some r := e
    show ∃ z,(if i = 1 then some (V.int 0) else if i = 0 then some (V.int 1) else none) = some z /\ _
    by_cases h1 : i = 1
    · rw [if_pos h1] at e ⊢
      cases e
      exact ⟨_,rfl,fun _ _ => .int _⟩
    · rw [if_neg h1] at e ⊢
      by_cases h0 : i = 0
      · rw [if_pos h0] at e ⊢
        cases e
        exact ⟨_,rfl,fun _ _ => .int _⟩
      · rw [if_neg h0] at e
        cases e
  | _ => cases e
theorem jTa {X : Cx} {x : Str} {y : Expr} {f : SE} {a : Addr} {p0 pos : Pos} (hx : X.env.scope.names.lookup x = some .globalImplicit) (hd : (x == ("__debug__" : Str)) = false) (hm : X.mg x = some (.ref a)) (ho : OthK X.K a) (hf : SEm f) (hb : PE X y (RE X.K f)) (hs : isSlice y = false) :
    PE X (.Subscript (.Name x p0) y pos) (RE X.K fun L cs Q => f L cs fun d cs1 => match othV d with
      | some r => Q r cs1
      | none => False) :=
  (pe_ix e2a (pe_glob (v := .ref a) hx hm rfl hd) hb (hJ hs)).imp fun σ H Q ⟨p,L,cs,R,q⟩ => ⟨p,L,cs,R,hf _ _ _ _ (fun d cs1 w v p1 H1 R1 x1 r1 => by
    cases e : othV d with
    | none => rw [e] at w; exact w.elim
    | some r =>
      rw [e] at w
      obtain ⟨z,hz,rz⟩ := hXa r1 e
      exact ⟨a,z,rfl,ho,hz,w z p1 H1 R1 x1 (rz _ _)⟩) q⟩
def dget1W (a : CE) (f g : SE) : SE := fun L cs Q => opd a f L cs fun u cs1 => isDct (view cs1 u) = true /\ g L cs1 fun kd cs2 => match get1V (view cs2 u) kd with
  | some r => Q r cs2
  | none => False
theorem jBa {X : Cx} {a : CE} {x y : Expr} {f g : SE} {apos cpos : Pos} (hu : X.A.units + 64 < cLine) (hf : SEm f) (hg : SEm g) (ha : PE X x (RO X.K a f)) (hb : PE X y (RE X.K g)) (m : M1 X x "get" apos y cpos) :
    PE X (.Call (.Attribute x "get" apos) [y] [] cpos) (RE X.K (dget1W a f g)) :=
  (hZa (by omega) ha hb m).imp fun σ H Q ⟨p,L,cs,R,q⟩ => ⟨p,L,cs,R,aB hf (fun u cs1 ⟨hd,h1⟩ v1 p1 H1 R1 x1 r1 => by
    obtain ⟨aa,e1,hI⟩ := jX (R1.view r1) hd
    refine ⟨aa,e1,hI,p1,L,cs1,R1,hg _ _ _ _ (fun w cs2 h2 v2 p2 H2 R2 x2 r2 => ?_) h1⟩
    have s2 := R2.view (r1.mv x2)
    cases e : get1V (view cs2 u) w with
    | none => rw [e] at h2; exact h2.elim
    | some o =>
      rw [e] at h2
      have main : ∀ {dd : D},view cs2 u = dd -> (dAt dd w).map (fun o => o.getD .non) = some o -> ∃ o',(DGet H2 aa v2 o' \/ (v2 = .non /\ o' = none /\ ∃ kvs,Rd H2 aa (.dK kvs))) /\ Q (o'.getD .non) H2 := fun {dd} hv h => by
        obtain ⟨oo,h3,h4⟩ := Option.map_eq_some_iff.mp h
        rw [hv] at s2
        obtain ⟨a2,r,e2,hg2,hr⟩ := dH r2 s2 h3
        rw [e1] at e2
        cases e2
        refine ⟨r,.inl hg2,?_⟩
        have := hr.getD (.non : Rep X.K p2 H2 .non .non)
        rw [h4] at this
        exact h2 _ p2 H2 R2 (x1.trans x2) this
      generalize hv : view cs2 u = dd at e
      cases dd with
      | dct kvs =>
        cases w with
        | non =>
          cases e
          cases r2
          rw [hv] at s2
          obtain ⟨a2,vs,e2,hr,_⟩ := s2
          rw [e1] at e2
          cases e2
          exact ⟨none,.inr ⟨rfl,rfl,_,hr⟩,h2 _ p2 H2 R2 (x1.trans x2) .non⟩
        | _ => exact main hv e
      | _ => exact main hv (by cases w <;> exact e)) q⟩
theorem jZa {X : Cx} {x : Expr} {f : SE} (hf : SEm f) (ha : PE X x (RE X.K f)) : PE X x (RE X.K fun L cs Q => f L cs fun d cs1 => ok (vtpV d) fun r => Q r cs1) :=
  ha.imp fun σ H Q ⟨p,L,cs,R,q⟩ => ⟨p,L,cs,R,hf _ _ _ _ (fun d cs1 w v p1 H1 R1 x1 r1 => by
    cases d with
    | tup xs =>
      cases r1 with
      | tup q n r => exact w.2 _ p1 H1 R1 x1 (.vtup (.inl q) n r)
    | ptup xs =>
      cases r1 with
      | ptup q d n r => exact w.2 _ p1 H1 R1 x1 (.vtup (.inr ⟨_,q⟩) n r)
    | vtup xs => exact w.2 _ p1 H1 R1 x1 r1
    | _ => exact (show False from w).elim) q⟩
theorem jYa {X : Cx} {a : CE} {x y : Expr} {f g : SE} {apos cpos : Pos} (hu : X.A.units + 64 < cLine) (hf : SEm f) (hg : SEm g) (ha : PE X x (RO X.K a f)) (hb : PE X y (RE X.K g)) (hs : starred y = false) (hx : baseB x = true) (hl : (apos.endLine == cpos.line) = true) :
    PE X (.Call (.Attribute x "index" apos) [y] [] cpos) (RE X.K fun L cs Q => opd a f L cs fun u cs1 => isTp (view cs1 u) = true /\ g L cs1 fun d cs2 => ok (tidxV (view cs2 u) d) fun r => Q r cs2) :=
  (h8a PySem.F.plainAttrs_tuple PySem.F.slot_tuple_index PySem.F.type_tuple_index (fZa hu) ha (pa_cons hb pa_nil (aD hs _ _)) (aO hx _ _ _) (aX (by simp [hs]) (by simp [fewB])) hl (aD hs _ _)).imp fun σ H Q ⟨p,L,cs,R,q⟩ => ⟨p,L,cs,R,aB hf (fun u cs1 w v1 p1 H1 R1 x1 r1 => by
    refine ⟨?_,⟨p1,L,cs1,R1,hg _ _ _ _ (fun d cs2 w v2 p2 H2 R2 x2 r2 => ?_) w.2⟩⟩
    · have s1 := R1.view r1
      have w1 := w.1
      generalize view cs1 u = e at s1 w1
      cases e with
      | ptup ds =>
        obtain ⟨l,vs,rfl,_,⟨o,ho,hd⟩,_⟩ := Rep.ptupS s1
        exact ⟨l,o,vs,rfl,ho,hd⟩
      | _ => cases w1
    · have s2 := R2.view (r1.mv x2)
      generalize view cs2 u = e at s2 w
      cases e with
      | ptup ds =>
        obtain ⟨l,vs,rfl,hl,_,rs⟩ := Rep.ptupS s2
        cases d with
        | int k =>
          cases r2
          have w : ok (match D.ints ds with
            | some ns => some (k ∈ ns,D.int (ns.idxOf k : Nat))
            | none => none) _ := w
          cases e1 : D.ints ds with
          | none => rw [e1] at w; exact w.elim
          | some ns =>
            rw [e1] at w
            have := rs.ints e1
            exact .inl ⟨l,ns,k,rfl,rfl,by rw [<- this]; exact hl,w.1,w.2 _ p2 H2 R2 (x1.trans x2) (.int _)⟩
        | tup ys =>
          have w : ok (match D.pys ds,(D.tup ys).py with
            | some ps,some q => some (min (D.deps ds) (D.tup ys).dep <= 60 /\ true ∈ ps.map fun y => PyData.eqv y q,D.int ((ps.map fun y => PyData.eqv y q).idxOf true : Nat))
            | _,_ => none) _ := w
          cases e1 : D.pys ds with
          | none => rw [e1] at w; exact w.elim
          | some ps =>
            cases e2 : (D.tup ys).py with
            | none => rw [e1,e2] at w; exact w.elim
            | some q =>
              rw [e1,e2] at w
              obtain ⟨g1,g2⟩ := bB e1
              obtain ⟨g3,g4⟩ := aG e2
              obtain ⟨⟨w1,w2⟩,w3⟩ := (show (_ /\ _) /\ _ from w)
              exact .inr ⟨l,vs,v2,ps,q,rfl,rfl,hl,Reps.dp rs e1,Rep.dp r2 e2,g2,g4,by rw [g1,g3]; exact w1,w2,w3 _ p2 H2 R2 (x1.trans x2) (.int _)⟩
        | _ => exact (show False from w).elim
      | _ => cases d <;> exact (show False from w).elim) q⟩
theorem jVa {X : Cx} {a : CE} {x : Expr} {f : SE} {p0 pos : Pos} (hf : SEm f) (hg : X.env.scope.names.lookup ("tuple" : Str) = some .globalImplicit) (hm : X.mg "tuple" = none) (ha : PE X x (RO X.K a f)) (hs : starred x = false) :
    PE X (.Call (.Name "tuple" p0) [x] [] pos) (RE X.K fun L cs Q => opd a f L cs fun u cs1 => match view cs1 u with
      | .lst xs => Q (.ptup xs) cs1
      | _ => False) :=
  (pe_callTy bAa hg hm rfl (pa_cons ha pa_nil (aD hs _ _)) (by decide) (by decide) (aD hs _ _) rfl).imp fun σ H Q ⟨p,L,cs,R,q⟩ => ⟨p,L,cs,R,aB hf (fun u cs1 w v1 p1 H1 R1 x1 r1 => by
    have s1 := R1.view r1
    generalize view cs1 u = e at s1 w
    cases e with
    | lst xs =>
      obtain ⟨l,vs,rfl,hl,rs⟩ := s1
      refine ⟨l,vs,rfl,hl.sq,fun b o hd hb => ?_⟩
      obtain ⟨R2,x2⟩ := R1.new (o := .frz o (.tup vs)) hb
      exact w (.ref b) p1 _ R2 (x1.trans x2) (.ptup upd_same hd (R1.M hb) (rs.mv x2.ext.mv))
    | _ => exact w.elim) q⟩
theorem jUa {X : Cx} {es : List Expr} {k : Nat} {pos : Pos} {F : Loc -> Cells -> (List D -> Cells -> Prop) -> Prop} (hF : SLm F) (ha : PA X es (RAs X.K F)) : PE X (.Tuple es k pos) (RE X.K fun L cs Q => F L cs fun ds cs1 => ds.length <= sizeLine /\ Q (.ptup ds) cs1) :=
  (h6a ha).imp fun σ H Q ⟨p,L,cs,R,q⟩ => ⟨p,L,cs,R,hF _ _ _ _ (fun ds cs1 w vs p1 H1 R1 x1 r1 => ⟨by rw [r1.len]; exact w.1,fun a o hd ha => by
    obtain ⟨R2,x2⟩ := R1.new (o := .frz o (.tup vs)) ha
    exact w.2 (.ref a) p1 _ R2 (x1.trans x2) (.ptup upd_same hd (R1.M ha) (r1.mv x2.ext.mv))⟩) q⟩
theorem i4a {X : Cx} {x : Expr} {f : SE} {apos cpos : Pos} (hf : SEm f) (ha : PE X x (RE X.K f)) (hx : baseB x = true) (hl : (apos.endLine == cpos.line) = true) :
    PE X (.Call (.Attribute x "bit_length" apos) [] [] cpos) (RE X.K fun L cs Q => f L cs fun d cs1 => ok (bitsV d) fun r => Q r cs1) :=
  (pe_bits ha (aO hx _ _ _) hl).imp fun σ H Q ⟨p,L,cs,R,q⟩ => ⟨p,L,cs,R,hf _ _ _ _ (fun d cs1 w v1 p1 H1 R1 x1 r1 => by
    cases d with
    | int i =>
      cases r1
      exact ⟨i,rfl,w.2 _ p1 H1 R1 x1 (.int _)⟩
    | _ => exact (show False from w).elim) q⟩
theorem jJa {X : Cx} {a : CE} {x y : Expr} {f g : SE} {apos cpos : Pos} (hf : SEm f) (hg : SEm g) (ha : PE X x (RO X.K a f)) (hb : PE X y (RE X.K g)) (hs : starred y = false) (hx : baseB x = true) (hl : (apos.endLine == cpos.line) = true) :
    PE X (.Call (.Attribute x "count" apos) [y] [] cpos) (RE X.K fun L cs Q => opd a f L cs fun u cs1 => isLs (view cs1 u) = true /\ g L cs1 fun d cs2 => ok (lcntV (view cs2 u) d) fun r => Q r cs2) :=
  (pe_bm PySem.F.plainAttrs_list PySem.F.slot_list_count PySem.F.type_list_count mt_lcount ha (pa_cons hb pa_nil (aD hs _ _)) (aO hx _ _ _) (aX (by simp [hs]) (by simp [fewB])) hl (aD hs _ _) rfl).imp fun σ H Q ⟨p,L,cs,R,q⟩ => ⟨p,L,cs,R,aB hf (fun u cs1 w v1 p1 H1 R1 x1 r1 => by
    refine ⟨?_,⟨p1,L,cs1,R1,hg _ _ _ _ (fun d cs2 w v2 p2 H2 R2 x2 r2 => ?_) w.2⟩⟩
    · have s1 := R1.view r1
      have w1 := w.1
      generalize view cs1 u = e at s1 w1
      cases e with
      | lst ds =>
        obtain ⟨l,vs,rfl,hl,_⟩ := s1
        exact .inl ⟨rfl,vs,hl.sq⟩
      | _ => cases w1
    · have s2 := R2.view (r1.mv x2)
      generalize view cs2 u = e at s2 w
      cases e with
      | lst ds =>
        obtain ⟨l,vs,rfl,hl,rs⟩ := s2
        cases d with
        | int k =>
          cases r2
          have w : ok (match D.ints ds with
            | some ns => some (True,D.int (ns.count k : Nat))
            | none => none) _ := w
          cases e1 : D.ints ds with
          | none => rw [e1] at w; exact w.elim
          | some ns =>
            rw [e1] at w
            have := rs.ints e1
            exact ⟨l,ns,k,rfl,rfl,by rw [<- this]; exact hl.sq,w.2 _ p2 H2 R2 (x1.trans x2) (.int _)⟩
        | _ => exact (show False from w).elim
      | _ => cases d <;> exact (show False from w).elim) q⟩
theorem jMa {X : Cx} {a : CE} {x : Expr} {f : SE} {j : Nat} {p0 vp kp pos : Pos} (hc : X.calm = true) (hu : X.A.units + 64 < cLine) (hf : SEm f) (hg : Gl X "max") (hm : X.mg "max" = none) (ha : PE X x (RO X.K a f)) (hs : starred x = false) :
    PE X (.Call (.Name "max" p0) [x] [⟨some "default",.Constant (.int 0) j vp,kp⟩] pos) (RE X.K fun L cs Q => opd a f L cs fun u cs1 => ok (maxdV (view cs1 u)) fun r => Q r cs1) :=
  (pe_callBK (cr_maxD hc hu) hg hm rfl (pa_cons ha pa_nil (aD hs _ _)) (pk_cons pe_int pk_nil) (by decide) (by decide) (by rw [aD hs [] X.env]; rfl) (by rw [aD hs [] X.env]; rfl)).imp fun σ H Q ⟨p,L,cs,R,q⟩ => ⟨p,L,cs,R,aB hf (fun u cs1 w v1 p1 H1 R1 x1 r1 => by
    have s1 := R1.view r1
    generalize view cs1 u = e at s1 w
    cases e with
    | lst ds =>
      obtain ⟨l,vs,rfl,hl,rs⟩ := s1
      have w : ok (match D.ints ds with
        | some ns => some (True,D.int (ns.max?.getD 0))
        | none => none) _ := w
      cases e1 : D.ints ds with
      | none => rw [e1] at w; exact w.elim
      | some ns =>
        rw [e1] at w
        have := rs.ints e1
        exact ⟨l,ns,rfl,rfl,by rw [<- this]; exact hl.sq,w.2 _ p1 H1 R1 x1 (.int _)⟩
    | _ => exact w.elim) q⟩
end
end Sp
set_option autoImplicit true
namespace Sp
open PySem PySem.Spec PyProof.Rows L2
theorem oJ {K : PySem.W.Frag} {p : Pm} {H : Hp} : ∀ {vs : List V} {ds : List D} {ss : List Str},Reps K p H vs ds -> D.strs ds = some ss -> vs = ss.map V.str
  | _,_,_,.nil,e => by cases e; rfl
  | _,d :: r,_,.cons h t,e => by
    cases d with
    | str i =>
      obtain ⟨qs,e1,rfl⟩ := Option.map_eq_some_iff.mp (show (D.strs r).map _ = _ from e)
      cases h
      rw [List.map_cons,oJ t e1]
    | _ => cases e
theorem n6 {K : PySem.W.Frag} {p : Pm} {H : Hp} : ∀ ss : List Str,Reps K p H (ss.map V.str) (ss.map D.str)
  | [] => .nil
  | s :: r => .cons (.str s) (n6 r)
section
variable {X : Cx} {a c : CE} {x y : Expr} {f g : SE} {apos cpos pos : Pos} {name : Str}
def rSm (K : PySem.W.Frag) (m : SM) : V -> List V -> Hp -> VK -> Prop := fun u xs H Q => ∃ p d e v,Rep K p H u d /\ Seen K p H v e /\ xs = [v] /\ ok (smV m d e) fun z => ∀ v H',Res K p H z v H' -> Q v H'
theorem cB {id : String} {r r' : V -> List V -> Hp -> VK -> Prop} (h : MtR X id r) (w : ∀ u xs H Q,r' u xs H Q -> r u xs H Q) : MtR X id r' := fun pins s σ H u xs v us Q I rx rs q => h pins s σ H u xs v us Q I rx rs (w _ _ _ _ q)
theorem lQa : MtR X "str.join" (rSm X.K .join) := cB mt_join fun u xs H Q ⟨p,d,e,v,hd,he,ex,q⟩ => by
  subst ex
  cases d with
  | str s =>
    cases hd
    cases e with
    | lst ds =>
      have q : ok (match D.strs ds with
        | some ss => some ((ss.map (·.length)).sum + ss.length * s.length <= 16777216,D.str (PySem.Txt.join s ss))
        | none => none) _ := q
      cases es : D.strs ds with
      | none => rw [es] at q; exact q.elim
      | some ss =>
        rw [es] at q
        obtain ⟨b,vs,rfl,hb,rb⟩ := he
        rw [oJ rb es] at hb
        exact ⟨s,b,ss,rfl,rfl,.inl hb.sq,q.1,q.2 _ _ .str⟩
    | _ => exact (show False from q).elim
  | _ => exact (show False from q).elim
theorem lSa : MtR X "str.split" (rSm X.K .split) := cB mt_split fun u xs H Q ⟨p,d,e,v,hd,he,ex,q⟩ => by
  subst ex
  cases d with
  | str s =>
    cases hd
    cases e with
    | str b =>
      obtain rfl := he.str
      obtain ⟨⟨h1,h2⟩,q⟩ := (show (_ /\ _) /\ _ from q)
      exact ⟨s,b,rfl,rfl,h1,h2,fun c hc => q _ _ ⟨c,_,rfl,hc,rfl,n6 _⟩⟩
    | _ => exact (show False from q).elim
  | _ => exact (show False from q).elim
theorem lPa : MtR X "str.index" (rSm X.K .index) := cB mt_sindex fun u xs H Q ⟨p,d,e,v,hd,he,ex,q⟩ => by
  subst ex
  cases d with
  | str s =>
    cases hd
    cases e with
    | str b =>
      obtain rfl := he.str
      have q : ok (match Builtin.Str.occurrences s b 0 s.length 1 with
        | i :: _ => some (True,D.int (i : Nat))
        | [] => none) _ := q
      cases eo : Builtin.Str.occurrences s b 0 s.length 1 with
      | nil => rw [eo] at q; exact q.elim
      | cons i r =>
        rw [eo] at q
        exact ⟨s,b,i,r,rfl,rfl,eo,q.2 _ _ .int⟩
    | _ => exact (show False from q).elim
  | _ => exact (show False from q).elim
theorem lOa : MtR X "str.find" (rSm X.K .find) := cB mt_find fun u xs H Q ⟨p,d,e,v,hd,he,ex,q⟩ => by
  subst ex
  cases d with
  | str s =>
    cases hd
    cases e with
    | str b =>
      obtain rfl := he.str
      exact ⟨s,b,rfl,rfl,q.2 _ _ .int⟩
    | _ => exact (show False from q).elim
  | _ => exact (show False from q).elim
theorem lTa : MtR X "str.strip" (rSm X.K .strip) := cB mt_stripChars fun u xs H Q ⟨p,d,e,v,hd,he,ex,q⟩ => by
  subst ex
  cases d with
  | str s =>
    cases hd
    cases e with
    | str b =>
      obtain rfl := he.str
      exact ⟨s,b,rfl,rfl,q.1,q.2 _ _ .str⟩
    | _ => exact (show False from q).elim
  | _ => exact (show False from q).elim
theorem lRa : MtR X "str.rstrip" (rSm X.K .rstrip) := cB mt_rstripChars fun u xs H Q ⟨p,d,e,v,hd,he,ex,q⟩ => by
  subst ex
  cases d with
  | str s =>
    cases hd
    cases e with
    | str b =>
      obtain rfl := he.str
      exact ⟨s,b,rfl,rfl,q.1,q.2 _ _ .str⟩
    | _ => exact (show False from q).elim
  | _ => exact (show False from q).elim
theorem cG {id : String} (m : SM) (hf : SEm f) (hg : SEm g) (slot : PySem.Slot "str" name id) (ty : typeOf (.builtin id) = pure (.type "method_descriptor")) (rule : MtR X id (rSm X.K m)) (ha : PE X x (RE X.K f)) (hb : PE X y (RO X.K a g)) (hs : starred y = false) (hx : baseB x = true) (hl : (apos.endLine == cpos.line) = true) :
    PE X (.Call (.Attribute x name apos) [y] [] cpos) (RR X.K fun L cs Q => f L cs fun d cs1 => isSt d = true /\ opd a g L cs1 fun u cs2 => ok (smV m d (view cs2 u)) fun r => Q r cs2) :=
  (pe_m1 slot ty rule ha hb (by rw [aD hs]; rfl) (aO hx _ _ _) hl).imp fun σ H Q ⟨p,L,cs,R,q⟩ => ⟨p,L,cs,R,hf _ _ _ _ (fun d cs1 w v1 p1 H1 R1 x1 r1 => by
    refine ⟨?_,⟨p1,L,cs1,R1,aB hg (fun u cs2 w v2 p2 H2 R2 x2 r2 => ⟨p2,d,view cs2 u,v2,r1.mv x2.ext.mv,R2.view r2,rfl,aC (fun z q v H' hr => q v p2 H2 H' R2 (x1.trans x2) hr) w⟩) w.2⟩⟩
    cases d with
    | str s => cases r1; exact ⟨s,rfl⟩
    | _ => cases w.1) q⟩
theorem kJa (m : SM) (hf : SEm f) (hg : SEm g) (hn : name = (m.nm : Str)) (ha : PE X x (RE X.K f)) (hb : PE X y (RO X.K a g)) (hs : starred y = false) (hx : baseB x = true) (hl : (apos.endLine == cpos.line) = true) :
    PE X (.Call (.Attribute x name apos) [y] [] cpos) (RR X.K fun L cs Q => f L cs fun d cs1 => isSt d = true /\ opd a g L cs1 fun u cs2 => ok (smV m d (view cs2 u)) fun r => Q r cs2) := by
  subst hn
  cases m with
  | join => exact cG .join hf hg F.slot_str_join F.type_str_join lQa ha hb hs hx hl
  | split => exact cG .split hf hg F.slot_str_split F.type_str_split lSa ha hb hs hx hl
  | index => exact cG .index hf hg F.slot_str_index F.type_str_index lPa ha hb hs hx hl
  | find => exact cG .find hf hg F.slot_str_find F.type_str_find lOa ha hb hs hx hl
  | strip => exact cG .strip hf hg F.slot_str_strip F.type_str_strip lTa ha hb hs hx hl
  | rstrip => exact cG .rstrip hf hg F.slot_str_rstrip F.type_str_rstrip lRa ha hb hs hx hl
theorem jXa (hf : SEm f) (hg : SEm g) (ha : PE X x (RE X.K f)) (hb : PE X y (RE X.K g)) (hs : isSlice y = false) :
    PE X (.Subscript x y pos) (RE X.K fun L cs Q => f L cs fun d cs1 => g L cs1 fun j cs2 => ok (sixV d j) fun r => Q r cs2) :=
  (pe_ix ix_str ha hb (hJ hs)).imp fun σ H Q ⟨p,L,cs,R,q⟩ => ⟨p,L,cs,R,hf _ _ _ _ (fun d cs1 w v1 p1 H1 R1 x1 r1 => ⟨p1,L,cs1,R1,hg _ _ _ _ (fun j cs2 w v2 p2 H2 R2 x2 r2 => by
    cases d with
    | str z =>
      cases j with
      | int i =>
        cases r1
        cases r2
        have w : ok (match L2.atI z.cps.toList i with
          | some c => some (z.length <= sizeLine,D.str ⟨#[c]⟩)
          | none => none) _ := w
        cases e : L2.atI z.cps.toList i with
        | none => rw [e] at w; exact w.elim
        | some c =>
          rw [e] at w
          exact ⟨z,i,c,rfl,rfl,w.1,e,w.2 _ p2 H2 R2 (x1.trans x2) (.str _)⟩
      | _ => exact (show False from w).elim
    | _ => exact (show False from w).elim) w⟩) q⟩
theorem i6a {op : CmpOp} {r : R2} {B : D -> D -> Vo Bool} (hop : OpR X (compareOp op) r) (hr : ∀ p H v w d e (Q : VK),Rep X.K p H v d -> Rep X.K p H w e -> ok (B d e) (fun t => Q (.bl t) H) -> r v w H Q) (hf : SEm f) (hg : SEm g) (ha : PE X x (RE X.K f)) (hb : PE X y (RE X.K g)) (hs : isSet y = false) :
    PE X (.Compare x [op] [y] pos) (RE X.K fun L cs Q => f L cs fun d cs1 => g L cs1 fun e cs2 => ok (B d e) fun t => Q (.bl t) cs2) :=
  (pe_cmpR hop ha hb (bH hs _)).imp fun σ H Q ⟨p,L,cs,R,q⟩ => ⟨p,L,cs,R,hf _ _ _ _ (fun d cs1 h1 v1 p1 H1 R1 x1 r1 => ⟨p1,L,cs1,R1,hg _ _ _ _ (fun e cs2 h2 v2 p2 H2 R2 x2 r2 => hr p2 H2 _ _ d e _ (r1.mv x2.ext.mv) r2 (aC (fun t q => q _ p2 H2 R2 (x1.trans x2) (.bl t)) h2)) h1⟩) q⟩
theorem iWa {op : CmpOp} {r : R2} {B : D -> D -> Vo Bool} (hc : c.peeks = none) (hop : OpR X (compareOp op) r) (hr : ∀ p H v w d e (Q : VK),Rep X.K p H v d -> Rep X.K p H w e -> ok (B d e) (fun t => Q (.bl t) H) -> r v w H Q) (hf : SEm f) (hg : SEm g) (ha : PE X x (RE X.K f)) (hb : PE X y (RE X.K g)) (hs : isSet y = false) :
    PT X (.Compare x [op] [y] pos) (RB X.K (tst c fun L cs Q => f L cs fun d cs1 => g L cs1 fun e cs2 => ok (B d e) fun t => Q (.bl t) cs2)) :=
  (pt_cmpR hop ha hb (bH hs _)).imp fun σ H Q ⟨p,L,cs,R,q⟩ => ⟨p,L,cs,R,by
    unfold tst at q
    rw [aT hc] at q
    exact hf _ _ _ _ (fun d cs1 h1 v1 p1 H1 R1 x1 r1 => ⟨p1,L,cs1,R1,hg _ _ _ _ (fun e cs2 h2 v2 p2 H2 R2 x2 r2 => hr p2 H2 _ _ d e _ (r1.mv x2.ext.mv) r2 (aC (fun t q => ⟨t,rfl,q.2 p2 H2 R2 (x1.trans x2)⟩) h2)) h1⟩) q⟩
theorem nZ {op : CmpOp} {r : R2} {B : D -> Vo Bool} {v0 : V} (hop : OpR X (compareOp op) r) (hr : ∀ p H v d (Q : VK),Rep X.K p H v d -> ok (B d) (fun t => Q (.bl t) H) -> r v v0 H Q) (hf : SEm f) (ha : PE X x (RE X.K f)) (hb : PE X y (tC v0)) (hs : isSet y = false) :
    PE X (.Compare x [op] [y] pos) (RE X.K fun L cs Q => f L cs fun d cs1 => ok (B d) fun t => Q (.bl t) cs1) :=
  (pe_cmpR hop ha hb (bH hs _)).imp fun σ H Q ⟨p,L,cs,R,q⟩ => ⟨p,L,cs,R,hf _ _ _ _ (fun d cs1 h1 v1 p1 H1 R1 x1 r1 => hr p1 H1 _ d _ r1 (aC (fun t q => q _ p1 H1 R1 x1 (.bl t)) h1)) q⟩
theorem nX {op : CmpOp} {r : R2} {B : D -> Vo Bool} {v0 : V} (hc : c.peeks = none) (hop : OpR X (compareOp op) r) (hr : ∀ p H v d (Q : VK),Rep X.K p H v d -> ok (B d) (fun t => Q (.bl t) H) -> r v v0 H Q) (hf : SEm f) (ha : PE X x (RE X.K f)) (hb : PE X y (tC v0)) (hs : isSet y = false) :
    PT X (.Compare x [op] [y] pos) (RB X.K (tst c fun L cs Q => f L cs fun d cs1 => ok (B d) fun t => Q (.bl t) cs1)) :=
  (pt_cmpR hop ha hb (bH hs _)).imp fun σ H Q ⟨p,L,cs,R,q⟩ => ⟨p,L,cs,R,by
    unfold tst at q
    rw [aT hc] at q
    exact hf _ _ _ _ (fun d cs1 h1 v1 p1 H1 R1 x1 r1 => hr p1 H1 _ d _ r1 (aC (fun t q => ⟨t,rfl,q.2 p1 H1 R1 x1⟩) h1)) q⟩
theorem sign_of {s : Str} {k : Nat} (h : s.cps.toList = [k]) : s = ⟨#[k]⟩ := by
  obtain ⟨⟨l⟩⟩ := s
  have h : l = [k] := h
  rw [h]
theorem lLa {n : Bool} {p : Pm} {H : Hp} {v w : V} {d e : D} {k : Bool -> Prop} (r1 : Rep X.K p H v d) (r2 : Rep X.K p H w e) (h : ok (sinV n d e) k) : ∃ i z,v = .str ⟨#[i]⟩ /\ w = .str z /\ k (n ^^ decide (i ∈ z.cps.toList)) := by
  cases d with
  | str s =>
    cases e with
    | str z =>
      cases r1
      cases r2
      have h : ok (match s.cps.toList with
        | [c] => some (True,n ^^ decide (c ∈ z.cps.toList))
        | _ => none) k := h
      cases es : s.cps.toList with
      | nil => rw [es] at h; exact h.elim
      | cons i t =>
        cases t with
        | nil =>
          rw [es] at h
          exact ⟨i,z,by rw [sign_of es],rfl,h.2⟩
        | cons j t => rw [es] at h; exact h.elim
    | _ => exact (show False from h).elim
  | _ => exact (show False from h).elim
def opSin (n : Bool) : CmpOp := if n then .NotIn else .In
def rSin (n : Bool) : R2 := fun v w H Q => ∃ (i : Nat) (z : Str),v = .str ⟨#[i]⟩ /\ w = .str z /\ Q (.bl (n ^^ decide (i ∈ z.cps.toList))) H
theorem nG (n : Bool) : OpR X (compareOp (opSin n)) (rSin n) := by
  cases n with
  | false =>
    intro pins s σ H x y v u Q I rx ry ⟨i,z,e1,e2,q⟩
    rw [Bool.false_xor] at q
    exact op_in_sign pins s σ H x y v u Q I rx ry ⟨i,z,e1,e2,q⟩
  | true =>
    intro pins s σ H x y v u Q I rx ry ⟨i,z,e1,e2,q⟩
    rw [Bool.true_xor] at q
    exact op_notIn_sign pins s σ H x y v u Q I rx ry ⟨i,z,e1,e2,q⟩
theorem kM {K : PySem.W.Frag} {p : Pm} {H : Hp} {d : D} (h : isAt d = true) : Rep K p H (atV d) d := by
  cases d with
  | non => exact .non
  | bl b => exact .bl b
  | int i => exact .int i
  | str s => exact .str s
  | _ => cases h
theorem jB {k : Str} {t : Tok} : (mixKind X.prog X.w).is (.inr k) (Value.str k t) = true := by
  show Value.isStrOf k (.str k t) = true
  simp [Value.isStrOf]
theorem mJ {w : World} : ∀ {es : List DictEntry} {kvs : List (Key × D)},KdEs w es kvs -> ∀ k : Key,(dGet kvs k = none /\ (es.find? fun e => keyIs k e.key) = none) \/ ∃ d e,dGet kvs k = some d /\ (es.find? fun e => keyIs k e.key) = some e /\ isAt d = true /\ RelV (atV d) e.val
  | [],[],_,k => .inl ⟨rfl,rfl⟩
  | e :: es,(q,d) :: r,h,k => by
    obtain ⟨⟨x,t,e1,e2,e3⟩,ha,hv,h⟩ := h
    have hk : keyIs k e.key = decide (q = k) := by
      rw [e1,e2]
      cases k with
      | inl i => rw [decide_eq_false (fun z => nomatch z)]; rfl
      | inr y =>
        show Value.isStrOf y (.str x t) = _
        by_cases z : x = y
        · subst z; rw [decide_eq_true rfl]; simp [Value.isStrOf]
        · rw [decide_eq_false fun w => z (Sum.inr.inj w)]
          simp [Value.isStrOf]
          exact z
    unfold dGet
    rw [List.find?_cons,List.find?_cons,hk]
    by_cases z : q = k
    · rw [decide_eq_true z]
      exact .inr ⟨d,e,rfl,rfl,ha,hv⟩
    · rw [decide_eq_false z]
      exact mJ h k
  | [],_ :: _,h,_ => h.elim
  | _ :: _,[],h,_ => h.elim
theorem mK {w : World} {P : Program} : ∀ {es : List DictEntry} {kvs : List (Key × D)},KdEs w es kvs -> ∀ e ∈ es,∃ k,keyIs k e.key = true /\ e.hash = keyH w k
  | [],[],_,e,he => nomatch he
  | e :: es,(q,d) :: r,h,z,hz => by
    obtain ⟨⟨x,t,e1,e2,e3⟩,ha,hv,h⟩ := h
    rcases List.mem_cons.mp hz with rfl | hz
    · exact ⟨.inr x,by rw [e2]; show Value.isStrOf x (.str x t) = true; simp [Value.isStrOf],e3⟩
    · exact mK (P := P) h z hz
  | [],_ :: _,h,_,_ => h.elim
  | _ :: _,[],h,_,_ => h.elim
theorem gV {h : Heap} {b : Addr} {kvs : List (Key × D)} (kin : X.K.In h) (o : KdK X.w X.K b kvs) : (b == sysModules) = false /\ ∃ f,h.MapOf (mixKind X.prog X.w) b f /\ ∀ k,(dGet kvs k = none /\ f k = none) \/ ∃ d u,dGet kvs k = some d /\ f k = some u /\ isAt d = true /\ RelV (atV d) u := by
  obtain ⟨es,n,hl,hs,hb⟩ := o
  refine ⟨hb,fun k => findBy keyIs es k,⟨_,_,n,kin _ _ hl,⟨rfl,rfl,rfl⟩,rfl,fun e he => ?_,fun k => rfl⟩,fun k => ?_⟩
  · exact mK (P := X.prog) hs e (by simpa using he)
  · have e : findBy keyIs es k = (es.toList.find? fun e => keyIs k e.key).map (·.val) := by
      unfold findBy
      rw [<- Array.find?_toList]
    show (_ /\ findBy keyIs es k = none) \/ ∃ d u,_ /\ findBy keyIs es k = some u /\ _
    rw [e]
    rcases mJ hs k with ⟨h1,h2⟩ | ⟨d,e,h1,h2,h3,h4⟩
    · exact .inl ⟨h1,by rw [h2]; rfl⟩
    · exact .inr ⟨d,e.val,h1,by rw [h2]; rfl,h3,h4⟩
variable {b : Addr} {kvs : List (Key × D)}
theorem e1a (o : KdK X.w X.K b kvs) : IxR X (fun x y H Q => ∃ k d,x = .ref b /\ y = .str k /\ dGet kvs (.inr k) = some d /\ (isAt d = true -> Q (atV d) H)) := by
  intro value slice pins s σ H x y v u Q I rx ry h hs
  obtain ⟨k,d,rfl,rfl,hd,q⟩ := h
  cases rx
  obtain ⟨t,rfl⟩ := (show ∃ t,u = Value.str k t from ry)
  obtain ⟨_,f,hm,hf⟩ := gV I.kIn o
  rcases hf (.inr k) with ⟨h1,_⟩ | ⟨d',w,h1,h2,h3,h4⟩
  · rw [h1] at hd; cases hd
  · rw [h1] at hd
    cases hd
    exact tail_any hm.typeIs PySem.F.slot_dict_getitem.lookup (wpAny_getItem_of (knd := mixKind X.prog X.w) jB hm h2 ⟨_,H,I.tok _,h4,q h3⟩) hs
theorem jIa {con : Str -> Option D} {nm : Str} {p0 : Pos} (hx : X.env.scope.names.lookup nm = some .globalImplicit) (hd : (nm == ("__debug__" : Str)) = false) (hm : X.mg nm = some (.ref b)) (hc : con nm = some (.dct kvs)) (o : KdK X.w X.K b kvs) (hf : SEm f) (hb : PE X y (RE X.K f)) (hs : isSlice y = false) :
    PE X (.Subscript (.Name nm p0) y pos) (RE X.K fun L cs Q => f L cs fun d cs1 => ok (kixV (con nm) d) fun r => Q r cs1) :=
  (pe_ix (e1a o) (pe_glob (v := .ref b) hx hm rfl hd) hb (hJ hs)).imp fun σ H Q ⟨p,L,cs,R,q⟩ => ⟨p,L,cs,R,hf _ _ _ _ (fun d cs1 w v1 p1 H1 R1 x1 r1 => by
    rw [hc] at w
    cases d with
    | str k =>
      cases r1
      have w : ok (match dGet kvs (.inr k) with
        | some r => some (True,r)
        | none => none) _ := w
      cases e : dGet kvs (.inr k) with
      | none => rw [e] at w; exact w.elim
      | some r =>
        rw [e] at w
        exact ⟨k,r,rfl,rfl,e,fun h => w.2 _ p1 H1 R1 x1 (kM h)⟩
    | _ => exact (show False from w).elim) q⟩
def tKget (b : Addr) (kvs : List (Key × D)) (ty tx : TE) : TE := fun σ H Q => ty σ H fun y H2 => tx σ H2 fun z H3 => ∃ k,y = .str k /\ (dGet kvs (.inr k) = none -> Q z H3) /\ ∀ d,dGet kvs (.inr k) = some d -> isAt d = true -> Q (atV d) H3
theorem h1a {o e h : Expr} {ty tx : TE} (od : KdK X.w X.K b kvs) (ho : PE X o (tC (.ref b))) (he : PE X e ty) (hh : PE X h tx) (m : M2 X o "get" apos e h cpos) : PE X (.Call (.Attribute o "get" apos) [e,h] [] cpos) (tKget b kvs ty tx) := by
  refine ⟨fun pins s σ H Q I h => ?_⟩
  refine wpAny_Call_method m.base m.few m.line PySem.F.plainAttrs_dict PySem.F.slot_dict_get PySem.F.type_dict_get (thn (ho.run pins s σ H (fun v H1 => v = .ref b /\ H1 = H) I ⟨rfl,rfl⟩) fun u s1 ⟨x,H1,I1,rx,ex,eh⟩ => ?_)
  subst ex
  subst eh
  obtain rfl : u = Value.ref b := rx
  obtain ⟨hb,f,hm,hf⟩ := gV I1.kIn od
  have hm' := hm
  obtain ⟨ob,es,ep,g1,g2,g3,_⟩ := hm'
  refine ⟨hm.typeIs,fun c ec => ⟨ob,by cases ec; exact g1,g2.2.1⟩,?_⟩
  rw [m.trees]
  refine Calls.callWith_builtin rfl (Calls.evalArgs_plain (Calls.spliced_cons (thn (he.run pins s1 σ H1 _ I1 h) fun iv s2 ⟨y,H2,I2,ry,q2⟩ =>
    Calls.spliced_cons (thn (hh.run pins s2 σ H2 _ I2 q2) fun fv s3 ⟨z,H3,I3,rz,k,ey,q3,q4⟩ => Calls.spliced_nil ?_))))
  subst ey
  obtain ⟨t,rfl⟩ := (show ∃ t,iv = Value.str k t from ry)
  obtain ⟨hb,f,hm,hf⟩ := gV I3.kIn od
  refine call_meetsIn PySem.F.slot_dict_get hm.typeIs PySem.F.entry_dict_get (PySem.F.args_dict_get_3 _ _ _) (meets_dict_get_default (mixKind X.prog X.w) b (k := .inr k) jB hb fv) ⟨f,hm,?_⟩
  rcases hf (.inr k) with ⟨h1,h2⟩ | ⟨d,w,h1,h2,h3,h4⟩
  · rw [h2]
    exact ⟨z,H3,I3.tok _,rz,q3 h1⟩
  · rw [h2]
    exact ⟨atV d,H3,I3.tok _,h4,q4 d h1 h3⟩
theorem jHa {con : Str -> Option D} {nm : Str} {p0 : Pos} {z : Expr} (hx : X.env.scope.names.lookup nm = some .globalImplicit) (hd : (nm == ("__debug__" : Str)) = false) (hm : X.mg nm = some (.ref b)) (hc : con nm = some (.dct kvs)) (o : KdK X.w X.K b kvs) (hf : SEm f) (hg : SEm g) (hb : PE X y (RE X.K f)) (hz : PE X z (RE X.K g)) (m : M2 X (.Name nm p0) "get" apos y z cpos) :
    PE X (.Call (.Attribute (.Name nm p0) "get" apos) [y,z] [] cpos) (RE X.K fun L cs Q => f L cs fun d cs1 => g L cs1 fun e cs2 => ok (kgetV (con nm) d e) fun r => Q r cs2) :=
  (h1a o (pe_glob (v := .ref b) hx hm rfl hd) hb hz m).imp fun σ H Q ⟨p,L,cs,R,q⟩ => ⟨p,L,cs,R,hf _ _ _ _ (fun d cs1 w v1 p1 H1 R1 x1 r1 => ⟨p1,L,cs1,R1,hg _ _ _ _ (fun e cs2 w v2 p2 H2 R2 x2 r2 => by
    rw [hc] at w
    cases d with
    | str k =>
      cases r1
      have w : True /\ _ := w
      refine ⟨k,rfl,fun h => ?_,fun d hd ha => ?_⟩
      · have w := w.2
        rw [h] at w
        exact w _ p2 H2 R2 (x1.trans x2) r2
      · have w := w.2
        rw [hd] at w
        exact w _ p2 H2 R2 (x1.trans x2) (kM ha)
    | _ => exact (show False from w).elim) w⟩) q⟩
def rKin (b : Addr) (n : Bool) (kvs : List (Key × D)) : R2 := fun v w H Q => ∃ k,v = .str k /\ w = .ref b /\ Q (.bl (n ^^ (dGet kvs (.inr k)).isSome)) H
theorem nD (o : KdK X.w X.K b kvs) (n : Bool) : OpR X (compareOp (opSin n)) (rKin b n kvs) := by
  intro pins s σ H x y v u Q I rx ry ⟨k,e1,e2,q⟩
  subst e1 e2
  cases ry
  obtain ⟨t,rfl⟩ := (show ∃ t,v = Value.str k t from rx)
  obtain ⟨hb,f,hm,hf⟩ := gV I.kIn o
  have ef : (f (.inr k)).isSome = (dGet kvs (.inr k)).isSome := by
    rcases hf (.inr k) with ⟨h1,h2⟩ | ⟨d,w,h1,h2,_,_⟩ <;> rw [h1,h2] <;> rfl
  have hk := jB (X := X) (k := k) (t := t)
  cases n with
  | false =>
    rw [Bool.false_xor] at q
    refine wpAny_in_of (knd := mixKind X.prog X.w) hk hb hm ?_
    rw [ef]
    exact ⟨.bl _,H,I.tok _,rfl,q⟩
  | true =>
    rw [Bool.true_xor] at q
    refine wpAny_notIn_of (knd := mixKind X.prog X.w) hk hb hm ?_
    rw [ef]
    exact ⟨.bl _,H,I.tok _,rfl,q⟩
theorem mQ {con : Str -> Option D} {nm : Str} {n : Bool} (hc : con nm = some (.dct kvs)) : ∀ p H v d (Q : VK),Rep X.K p H v d -> ok (kinV n (con nm) d) (fun t => Q (.bl t) H) -> rKin b n kvs v (.ref b) H Q := fun p H v d Q r w => by
  rw [hc] at w
  cases d with
  | str k =>
    cases r
    exact ⟨k,rfl,rfl,w.2⟩
  | _ => exact (show False from w).elim
def rKmem (K : PySem.W.Frag) (b : Addr) (n : Bool) (ss : List Str) : R2 := fun v w H Q => w = .ref b /\ ∃ p d,Rep K p H v d /\ ok (memV d (.tup (ss.map D.str))) fun t => Q (.bl (n ^^ t)) H
theorem lM {K : PySem.W.Frag} {H : Hp} : ∀ ss : List Str,DpAll K H (ss.map V.str) (ss.map PyData.str)
  | [] => .nil
  | s :: r => .cons (.str s) (lM r)
theorem nT : ∀ ss : List Str,D.pys (ss.map D.str) = some (ss.map PyData.str)
  | [] => rfl
  | s :: r => by rw [List.map_cons,D.pys,nT r]; rfl
theorem nE {ss : List Str} (hu : X.A.units + 64 < cLine) (o : KtK X.K b ss) (n : Bool) : OpR X (compareOp (opSin n)) (rKmem X.K b n ss) := by
  intro pins s σ H x y v u Q I rx ry ⟨e2,p,d,hd,q⟩
  subst e2
  obtain ⟨pd,qs,e1,e3,z,q⟩ := jJ q
  have e4 : (D.tup (ss.map D.str)).py = some (.tuple (ss.map PyData.str)) := by
    show (D.pys _).map PyData.tuple = _
    rw [nT]
    rfl
  have e3 : (D.tup (ss.map D.str)).py = some (.tuple qs) := by
    rcases e3 with e3 | e3
    · rw [e4] at e3; cases e3
    · exact e3
  have eq : qs = ss.map PyData.str := by
    rw [e4] at e3
    injection e3 with e3
    injection e3 with e3
    exact e3.symm
  obtain ⟨as,r1⟩ := Dp.reads I pd x v (Rep.dp hd e1) rx
  have hsq : SqT X.K H b (ss.map V.str) := .inr o
  obtain ⟨bs,r2⟩ := Dp.reads I (.tuple qs) (.ref b) u (by rw [eq]; exact .tup hsq (lM ss)) ry
  cases n with
  | false => exact SeqAt.in_tuple_data r2 r1 (aG e3).2 (aG e1).2 (by omega) ⟨.bl _,H,I,rfl,by rw [Bool.false_xor] at q; exact q⟩
  | true => exact SeqAt.notIn_tuple_data r2 r1 (aG e3).2 (aG e1).2 (by omega) ⟨.bl _,H,I,rfl,by rw [Bool.true_xor] at q; exact q⟩
theorem mR {con : Str -> Option D} {nm : Str} {n : Bool} {ss : List Str} (hc : con nm = some (D.tup (ss.map D.str))) : ∀ p H v d (Q : VK),Rep X.K p H v d -> ok (kmemV n (con nm) d) (fun t => Q (.bl t) H) -> rKmem X.K b n ss v (.ref b) H Q := fun p H v d Q r w => by
  rw [hc] at w
  have w : ok (Vo.map (n ^^ ·) (memV d (.tup (ss.map D.str)))) _ := w
  rw [jL] at w
  exact ⟨rfl,p,d,r,w⟩
end
def tGet2 (td ty tx : TE) : TE := fun σ H Q => td σ H fun x H1 => ∃ a,x = .ref a /\ IsD H1 a /\ ty σ H1 fun y H2 => tx σ H2 fun z H3 => ∃ o,(DGet H3 a y o \/ (y = .non /\ o = none /\ ∃ kvs,Rd H3 a (.dK kvs))) /\ Q (o.getD z) H3
theorem h0a {X : Cx} {o e h : Expr} {td ty tx : TE} {apos cpos : Pos} (hu : X.A.units + 1 < cLine) (ho : PE X o td) (he : PE X e ty) (hh : PE X h tx) (m : M2 X o "get" apos e h cpos) : PE X (.Call (.Attribute o "get" apos) [e,h] [] cpos) (tGet2 td ty tx) :=
  ⟨fun pins s σ H Q I h => wpAny_Call_method m.base m.few m.line PySem.F.plainAttrs_dict PySem.F.slot_dict_get PySem.F.type_dict_get (thn (ho.run pins s σ H _ I h) fun u s1 ⟨x,H1,I1,rx,a,ex,d,q1⟩ => by
    subst ex
    obtain rfl : u = Value.ref a := rx
    obtain ⟨t1,t2,_⟩ := isD_at I1 d
    refine ⟨t1,t2,?_⟩
    rw [m.trees]
    refine Calls.callWith_builtin rfl (Calls.evalArgs_plain (Calls.spliced_cons (thn (he.run pins s1 σ H1 _ I1 q1) fun iv s2 ⟨y,H2,I2,ry,q2⟩ => Calls.spliced_cons (thn (hh.run pins s2 σ H2 _ I2 q2) fun fv s3 ⟨z,H3,I3,rz,ov,g,q3⟩ => Calls.spliced_nil ?_))))
    rcases g with g | ⟨rfl,rfl,kvs,g⟩
    · exact d_get2 hu I3 g ry rz fun w' s4 I4 rw' => ⟨_,H3,I4,rw',q3⟩
    · cases (show iv = Value.none from ry)
      obtain ⟨zz,hd,vs,rel,dd⟩ := dk_rd I3.hok g
      obtain ⟨f,mf,fn⟩ := mS dd.mapOf
      refine call_meetsIn PySem.F.slot_dict_get mf.typeIs PySem.F.entry_dict_get (PySem.F.args_dict_get_3 _ _ _) (meets_dict_get_default (leafKind X.prog X.w) a (k := .none) rfl hd fv) ⟨f,mf,?_⟩
      rw [fn]
      exact ⟨z,H3,I3.tok _,rz,q3⟩)⟩
theorem jCa {X : Cx} {a : CE} {x y z : Expr} {f g h : SE} {apos cpos : Pos} (hu : X.A.units + 64 < cLine) (hf : SEm f) (hg : SEm g) (hh : SEm h) (ha : PE X x (RO X.K a f)) (hb : PE X y (RE X.K g)) (hc : PE X z (RE X.K h)) (m : M2 X x "get" apos y z cpos) :
    PE X (.Call (.Attribute x "get" apos) [y,z] [] cpos) (RE X.K fun L cs Q => opd a f L cs fun u cs1 => isDct (view cs1 u) = true /\ g L cs1 fun kd cs2 => h L cs2 fun z cs3 => match get2V (view cs3 u) kd z with
      | some r => Q r cs3
      | none => False) :=
  (h0a (by omega) ha hb hc m).imp fun σ H Q ⟨p,L,cs,R,q⟩ => ⟨p,L,cs,R,aB hf (fun u cs1 ⟨hd,h1⟩ v1 p1 H1 R1 x1 r1 => by
    obtain ⟨aa,e1,hI⟩ := jX (R1.view r1) hd
    refine ⟨aa,e1,hI,p1,L,cs1,R1,hg _ _ _ _ (fun w cs2 h2 v2 p2 H2 R2 x2 r2 => ⟨p2,L,cs2,R2,hh _ _ _ _ (fun zd cs3 h2 v3 p3 H3 R3 x3 r3 => ?_) h2⟩) h1⟩
    have s2 := R3.view (r1.mv (x2.trans x3))
    have r2 := r2.mv x3.ext.mv
    cases e : get2V (view cs3 u) w zd with
    | none => rw [e] at h2; exact h2.elim
    | some o =>
      rw [e] at h2
      have main : ∀ {dd : D},view cs3 u = dd -> (dAt dd w).map (fun o => o.getD zd) = some o -> ∃ o',(DGet H3 aa v2 o' \/ (v2 = .non /\ o' = none /\ ∃ kvs,Rd H3 aa (.dK kvs))) /\ Q (o'.getD v3) H3 := fun {dd} hv h => by
        obtain ⟨oo,h3,h4⟩ := Option.map_eq_some_iff.mp h
        rw [hv] at s2
        obtain ⟨a2,r,e2,hg2,hr⟩ := dH r2 s2 h3
        rw [e1] at e2
        cases e2
        refine ⟨r,.inl hg2,?_⟩
        have := hr.getD r3
        rw [h4] at this
        exact h2 _ p3 H3 R3 ((x1.trans x2).trans x3) this
      generalize hv : view cs3 u = dd at e
      cases dd with
      | dct kvs =>
        cases w with
        | non =>
          cases e
          cases r2
          rw [hv] at s2
          obtain ⟨a2,vs,e2,hr,_⟩ := s2
          rw [e1] at e2
          cases e2
          exact ⟨none,.inr ⟨rfl,rfl,_,hr⟩,h2 _ p3 H3 R3 ((x1.trans x2).trans x3) r3⟩
        | _ => exact main hv e
      | _ => exact main hv (by cases w <;> exact e)) q⟩
theorem h9a {X : Cx} {tg x : Expr} {f : SE} (hf : SEm f) (h : PE X x (RE X.K f)) : PI X tg x (RI X.K false fun L cs Q => f L cs fun d cs1 => match d with
    | .str x => Q (x.cps.toList.map fun c => .str ⟨#[c]⟩) (fun _ _ => True) cs1
    | _ => False) :=
  (pi_str h).imp fun σ H R ⟨p,L,cs,R0,q⟩ => ⟨p,L,cs,R0,hf _ _ _ _ (fun d cs1 w v p1 H1 R1 x1 r1 => by
    cases d with
    | str s =>
      cases r1
      refine ⟨s,rfl,w _ p1 H1 R1 x1 fun i p' σ' H' L' cs' R' m ho hs => ?_⟩
      refine ⟨fun e => by rw [e,List.length_map,Array.length_toList]; exact Nat.le_refl _,fun z hz => ?_⟩
      rw [List.getElem?_map] at hz
      obtain ⟨k,e1,e2⟩ := Option.map_eq_some_iff.mp hz
      subst e2
      have e1 : s.cps[i]? = some k := by rw [<- Array.getElem?_toList]; exact e1
      refine ⟨(Array.getElem?_eq_some_iff.mp e1).1,fun v H'' hy => ?_⟩
      obtain ⟨rfl,c',ec,rfl⟩ := hy
      rw [e1] at ec
      cases ec
      exact ⟨R',.refl,.str _⟩
    | _ => exact w.elim) q⟩
end Sp
set_option autoImplicit true
namespace Sp
open PySem PySem.Spec PyProof.Rows L2
section
variable {K : PySem.W.Frag} {p : Pm} {σ : L2.St} {H : Hp} {L : Loc} {cs : Cells}
theorem m4 {f : Str} : ∀ {vs : List (Str × V)} {fs : List (Str × D)},vs.map (·.1) = fs.map (·.1) -> Reps K p H (vs.map (·.2)) (fs.map (·.2)) -> ∀ {x : D},fs.lookup f = some x -> ∃ v,vs.lookup f = some v /\ Rep K p H v x
  | [],[],_,_,x,e => by cases e
  | (k,v) :: vs,(g,y) :: fs,hk,r,x,e => by
    rw [List.map_cons,List.map_cons,List.cons.injEq] at hk
    obtain ⟨h1,h2⟩ := hk
    have h1 : k = g := h1
    subst h1
    cases r with
    | cons r1 rs =>
    rw [List.lookup_cons] at e ⊢
    split at e
    · rename_i q
      cases e
      exact ⟨v,rfl,r1⟩
    · rename_i q
      exact m4 h2 rs e
  | [],_ :: _,hk,_,_,_ => by cases hk
  | _ :: _,[],hk,_,_,_ => by cases hk
theorem jI {f : Str} : ∀ {vs : List (Str × V)} {fs : List (Str × D)},vs.map (·.1) = fs.map (·.1) -> fs.lookup f = none -> vs.lookup f = none
  | [],[],_,_ => rfl
  | (k,v) :: vs,(g,y) :: fs,hk,e => by
    rw [List.map_cons,List.map_cons,List.cons.injEq] at hk
    obtain ⟨h1,h2⟩ := hk
    have h1 : k = g := h1
    subst h1
    rw [List.lookup_cons] at e ⊢
    split at e
    · cases e
    · rename_i q
      exact jI h2 e
  | [],_ :: _,hk,_ => by cases hk
  | _ :: _,[],hk,_ => by cases hk
theorem nP {f : Str} {v : V} {d : D} (rv : Rep K p H v d) : ∀ {vs : List (Str × V)} {fs : List (Str × D)},vs.map (·.1) = fs.map (·.1) -> Reps K p H (vs.map (·.2)) (fs.map (·.2)) ->
    (putF f v vs).map (·.1) = (putFd f d fs).map (·.1) /\ Reps K p H ((putF f v vs).map (·.2)) ((putFd f d fs).map (·.2))
  | [],[],_,_ => ⟨rfl,.cons rv .nil⟩
  | (k,x) :: vs,(g,y) :: fs,hk,r => by
    rw [List.map_cons,List.map_cons,List.cons.injEq] at hk
    obtain ⟨h1,h2⟩ := hk
    have h1 : k = g := h1
    subst h1
    cases r with
    | cons r1 rs =>
    rw [show putF f v ((k,x) :: vs) = (if k = f then (k,v) :: vs else (k,x) :: putF f v vs) from rfl,show putFd f d ((k,y) :: fs) = (if k = f then (k,d) :: fs else (k,y) :: putFd f d fs) from rfl]
    by_cases q : k = f
    · rw [if_pos q,if_pos q]
      exact ⟨by rw [List.map_cons,List.map_cons,h2],.cons rv rs⟩
    · rw [if_neg q,if_neg q]
      obtain ⟨i1,i2⟩ := nP rv h2 rs
      exact ⟨by rw [List.map_cons,List.map_cons,i1],.cons r1 i2⟩
  | [],_ :: _,hk,_ => by cases hk
  | _ :: _,[],hk,_ => by cases hk
theorem gN (R : Rl K p σ H L cs) {n : Nat} {a : Addr} {c : Str} {fs : List (Str × D)} (hc : p.cell[n]? = some a) (e : cs[n]? = some (.inst c fs)) :
    ∃ C dx vs,H a = some (.ins C dx vs) /\ CAt K c C /\ vs.map (·.1) = fs.map (·.1) /\ Reps K p H (vs.map (·.2)) (fs.map (·.2)) := R.cells.at_ n _ a e hc
end
section
variable {X : Cx}
theorem jDa {e : Expr} {f c : Str} {pos : Pos} {g : SE} {C : Addr} (hg : SEm g) (he : PE X e (RE X.K g)) (hC : CAt X.K c C) (hn : NoAttr X.K C f) (hb : attributeBase e f X.env (eval e X.env) = eval e X.env) :
    PE X (.Attribute e f pos) (RE X.K fun L cs Q => g L cs fun d cs1 => match d with
      | .ref n => match cs1[n]? with
        | some (.inst c' fs) => c' = c /\ match fs.lookup f with
          | some x => Q x cs1
          | none => False
        | _ => False
      | _ => False) :=
  (pe_fld he hb).imp fun σ H Q ⟨p,L,cs,R,q⟩ => ⟨p,L,cs,R,hg _ _ _ _ (fun d cs1 w v p1 H1 R1 x1 r1 => by
    cases d with
    | ref n =>
      simp only [] at w
      split at w
      · rename_i c' fs e1
        obtain ⟨rfl,w⟩ := w
        split at w
        · rename_i x e2
          cases r1 with
          | ref hc =>
            obtain ⟨C',dx,vs,h1,h2,h3,h4⟩ := gN R1 hc e1
            obtain rfl := h2.uniq hC
            obtain ⟨y,hy,ry⟩ := m4 h3 h4 e2
            exact ⟨_,C',dx,vs,y,rfl,h1,hC.cls,hn,hy,w y p1 H1 R1 x1 ry⟩
        · exact w.elim
      · exact w.elim
    | _ => exact w.elim) q⟩
theorem m8 {M : Model} {A : Around} {E : Value -> Shared -> Prop} {s : Shared} {env : Env} {o : Expr} {m : Str} {apos pos : Pos} {args : List Expr} {Q : Value -> Shared -> Prop} (hbase : attributeBase o m env (eval o env) = eval o env)
    (hform : methodCallForm (args.length + ([] : List Keyword).length) (backTo pos (starEach args env)) (backToKw pos (keywordEach [] env)) = true) (hline : (apos.endLine == pos.line) = true)
    (h : wpAny M A (eval o env) (fun ov s₁ => ∀ pl,wpAny M A (getMethod ov m pl) (fun f s₂ => wpAny M A (callWith pos f.1 f.2 (backTo pos (starEach args env)) (backToKw pos (keywordEach [] env))) Q E s₂) E s₁) E s) :
    wpAny M A (eval (.Call (.Attribute o m apos) args [] pos) env) Q E s := by
  have hpos : methodCallPos true o env apos pos = pure pos := by unfold methodCallPos; simp [hline]
  rw [arm_eval_Call,hbase]
  refine wpAny_bind (wpAny_mono h (fun ov s₁ h₁ => ?_) fun _ _ x => x)
  refine wpAny_bind (wpAny_standAt ?_)
  unfold methodCall
  rw [hform]
  exact wpAny_bind (wpAny_holding (wpAny_mono (h₁ _) (fun f s₂ h₂ => wpAny_bind (wpAny_of_eq hpos h₂)) fun _ _ x => x))
def tMethG (C : Addr) (m : Str) (n : Nat) (sp : Sp0) (ta : TE) (t : TA) : TE := fun σ H Q => ta σ H fun x H1 => ∃ a dx fs,x = .ref a /\ H1 a = some (.ins C dx fs) /\ fs.lookup m = none /\ t σ H1 fun vs H2 => vs.length + 1 = n /\ sp (x :: vs) H2 Q
theorem h3a {C f : Addr} {k : Nat} {m : Str} {fd : FuncData} {ps : List Str} {sp : Sp0} {o e : Expr} {es : List Expr} {ta : TE} {t : TA} {apos pos : Pos} (he : PE X o ta) (c : Cls X.K C) (hm : Meth X.K C m f) (F : FnG X.prog X.w X.K X.mg X.base k f fd ps sp) (hr : Room k X.A) (hgd : X.A.guards = some []) (hb : Binds X.K fd ps []) (ha : PA X (e :: es) t)
    (hst : starEach (e :: es) X.env = (false,eval e X.env) :: starEach es X.env) (hpl : (backTo pos (starEach es X.env)).any (·.1) = false)
    (hbs : baseB o = true) (hfw : methodCallForm ((e :: es).length + ([] : List Keyword).length) (backTo pos (starEach (e :: es) X.env)) (backToKw pos (keywordEach [] X.env)) = true) (hln : (apos.endLine == pos.line) = true) :
    PE X (.Call (.Attribute o m apos) (e :: es) [] pos) (tMethG C m ps.length sp ta t) := by
  refine ⟨fun pins s σ H Q I h => ?_⟩
  refine m8 (aO hbs _ _ _) hfw hln (thn (he.run pins s σ H _ I h) fun u s1 ⟨x,H1,I1,rx,a,dx,fs,ex,ea,l,q⟩ pl => ?_)
  subst ex
  obtain rfl : u = Value.ref a := rx
  refine getmeth_ok I1 ea c hm l ?_
  refine PySem.W.callWith_K (first := [.ref a]) (h₀ := X.base) I.ok.mod.kin hm.kp (thn (ha.run pos pins s1 σ H1 _ I1 q) fun us s2 ⟨vs,H2,I2,r,hl,q2⟩ => ⟨I2.kIn,?_⟩) hst hpl
  exact eE (us := .ref a :: us) (vs := .ref a :: vs) F hr hgd hb hl I2 (.cons rfl r) q2
theorem h4a {C f : Addr} {k : Nat} {m : Str} {fd : FuncData} {ps : List Str} {sp : Sp0} {o : Expr} {ta : TE} {apos pos : Pos} (he : PE X o ta) (c : Cls X.K C) (hm : Meth X.K C m f) (F : FnG X.prog X.w X.K X.mg X.base k f fd ps sp) (hr : Room k X.A) (hgd : X.A.guards = some []) (hb : Binds X.K fd ps [])
    (hbs : baseB o = true) (hln : (apos.endLine == pos.line) = true) :
    PE X (.Call (.Attribute o m apos) [] [] pos) (tMethG C m ps.length sp ta tNil) := by
  refine ⟨fun pins s σ H Q I h => ?_⟩
  refine m8 (aO hbs _ _ _) rfl hln (thn (he.run pins s σ H _ I h) fun u s1 ⟨x,H1,I1,rx,a,dx,fs,ex,ea,l,hl,q⟩ pl => ?_)
  subst ex
  obtain rfl : u = Value.ref a := rx
  refine getmeth_ok I1 ea c hm l ?_
  exact PySem.W.callWith_K0 (first := [.ref a]) I1.kIn hm.kp (eE (us := [.ref a]) (vs := [.ref a]) F hr hgd hb hl I1 (.cons rfl .nil) q)
def methW (c m q : Str) (g : SE) (F : Loc -> Cells -> (List D -> Cells -> Prop) -> Prop) (G : SF) : SE := fun L cs Q => g L cs fun d cs1 => match d with
  | .ref n => match cs1[n]? with
    | some (.inst c' fs) => (c' = c /\ fs.lookup m = none) /\ F L cs1 fun ds cs2 => G q (.ref n :: ds) cs2 Q
    | _ => False
  | _ => False
theorem call_in {G : SF} {q : Str} {K : PySem.W.Frag} {p p1 : Pm} {σ : L2.St} {H H1 : Hp} {L : Loc} {cs1 : Cells} {Q : VK} {vs : List V} {ds : List D} (hG : SFm G) (R1 : Rl K p1 σ H1 L cs1) (x1 : ExtE p p1 H H1) (r1 : Reps K p1 H1 vs ds)
    (w : G q ds cs1 fun d cs' => ∀ v p' H',Rl K p' σ H' L cs' -> ExtE p p' H H' -> Rep K p' H' v d -> Q v H') : spG K G q vs H1 Q := by
  obtain ⟨ok1,C1,rs1⟩ := R1.in
  refine ⟨p1.in,ds,cs1,rfl,ok1,C1,rs1,r1.mv Mv.in,hG _ _ _ _ _ (fun d cs' w v p' H' ho ok' C' x' r' => ?_) w⟩
  obtain ⟨R2,x2,m2⟩ := R1.out ho ok' C' x'
  exact w v _ H' R2 (x1.trans x2) (r'.mv m2)
theorem jNa {G : SF} {c m q : Str} {g : SE} {F : Loc -> Cells -> (List D -> Cells -> Prop) -> Prop} {C f : Addr} {k : Nat} {fd : FuncData} {ps : List Str} {o e : Expr} {es : List Expr} {apos pos : Pos} (hg : SEm g) (hF : SLm F) (hG : SFm G) (he : PE X o (RE X.K g)) (hC : CAt X.K c C) (hm : Meth X.K C m f)
    (Fn : FnG X.prog X.w X.K X.mg X.base k f fd ps (spG X.K G q)) (hr : Room k X.A) (hgd : X.A.guards = some []) (hb : Binds X.K fd ps []) (hlen : ∀ L cs Q,F L cs Q -> F L cs fun ds cs' => ds.length + 1 = ps.length /\ Q ds cs') (ha : PA X (e :: es) (RAs X.K F))
    (hst : starEach (e :: es) X.env = (false,eval e X.env) :: starEach es X.env) (hpl : (backTo pos (starEach es X.env)).any (·.1) = false)
    (hbs : baseB o = true) (hfw : methodCallForm ((e :: es).length + ([] : List Keyword).length) (backTo pos (starEach (e :: es) X.env)) (backToKw pos (keywordEach [] X.env)) = true) (hln : (apos.endLine == pos.line) = true) :
    PE X (.Call (.Attribute o m apos) (e :: es) [] pos) (RE X.K (methW c m q g F G)) :=
  (h3a he hC.cls hm Fn hr hgd hb ha hst hpl hbs hfw hln).imp fun σ H Q ⟨p,L,cs,R,w0⟩ => ⟨p,L,cs,R,hg _ _ _ _ (fun d cs1 w v p1 H1 R1 x1 r1 => by
    cases d with
    | ref n =>
      simp only [] at w
      split at w
      · rename_i c' fs e1
        obtain ⟨⟨ec,l⟩,w⟩ := w
        subst ec
        have r1' := r1
        cases r1 with
        | ref hc =>
          obtain ⟨C',dx,vs,h1,h2,h3,h4⟩ := gN R1 hc e1
          obtain rfl := h2.uniq hC
          refine ⟨_,dx,vs,rfl,h1,jI h3 l,p1,L,cs1,R1,hF _ _ _ _ (fun ds cs2 ⟨hl,w⟩ ws p2 H2 R2 x2 r2 => ⟨by rw [r2.len]; exact hl,?_⟩) (hlen _ _ _ w)⟩
          exact call_in hG R2 (x1.trans x2) (.cons (r1'.mv x2.ext.mv) r2) w
      · exact w.elim
    | _ => exact w.elim) w0⟩
theorem jOa {G : SF} {c m q : Str} {g : SE} {C f : Addr} {k : Nat} {fd : FuncData} {ps : List Str} {o : Expr} {apos pos : Pos} (hg : SEm g) (hG : SFm G) (he : PE X o (RE X.K g)) (hC : CAt X.K c C) (hm : Meth X.K C m f)
    (Fn : FnG X.prog X.w X.K X.mg X.base k f fd ps (spG X.K G q)) (hr : Room k X.A) (hgd : X.A.guards = some []) (hb : Binds X.K fd ps []) (hl : ps.length = 1)
    (hbs : baseB o = true) (hln : (apos.endLine == pos.line) = true) :
    PE X (.Call (.Attribute o m apos) [] [] pos) (RE X.K (methW c m q g (fun _ cs Q => Q [] cs) G)) :=
  (h4a he hC.cls hm Fn hr hgd hb hbs hln).imp fun σ H Q ⟨p,L,cs,R,w0⟩ => ⟨p,L,cs,R,hg _ _ _ _ (fun d cs1 w v p1 H1 R1 x1 r1 => by
    cases d with
    | ref n =>
      simp only [] at w
      split at w
      · rename_i c' fs e1
        obtain ⟨⟨ec,l⟩,w⟩ := w
        subst ec
        have r1' := r1
        cases r1 with
        | ref hc =>
          obtain ⟨C',dx,vs,h1,h2,h3,h4⟩ := gN R1 hc e1
          obtain rfl := h2.uniq hC
          exact ⟨_,dx,vs,rfl,h1,jI h3 l,by rw [hl]; rfl,call_in hG R1 x1 (.cons r1' .nil) w⟩
      · exact w.elim
    | _ => exact w.elim) w0⟩
def tMakeG (C : Addr) (n : Nat) (sp : Sp0) (t : TA) : TE := fun σ H Q => t σ H fun vs H1 => vs.length + 1 = n /\ ∀ x dx,H1 x = none -> H1 dx = none -> dx ≠ x ->
  sp (.ref x :: vs) (upd (upd H1 dx (.own x)) x (.ins C dx [])) (fun v H2 => v = .non /\ Q (.ref x) H2)
theorem lFa {C f : Addr} {k : Nat} {fd : FuncData} {ps : List Str} {sp : Sp0} {pins : List (Addr × Obj)} {σ : L2.St} {H : Hp} {s : Shared} {Q : VK} {us : List Value} {vs : List V} (M : Mk X.K C f) (F : FnG X.prog X.w X.K X.mg X.base k f fd ps sp) (hr : Room (k + 1) X.A) (hgd : X.A.guards = some []) (hb : Binds X.K fd ps []) (hln : vs.length + 1 = ps.length)
    (I : Inv X pins σ H s) (r : Vals vs us)
    (h : ∀ x dx,H x = none -> H dx = none -> dx ≠ x -> sp (.ref x :: vs) (upd (upd H dx (.own x)) x (.ins C dx [])) (fun v H2 => v = .non /\ Q (.ref x) H2)) :
    wpAny (model X.prog X.w) X.A (PySem.call (.ref C) us) (EP X pins σ Q) X.xe s := by
  have hq := h (s.heap.objs.size + 1) s.heap.objs.size (I.hok.fresh (Nat.le_succ _)) (I.hok.fresh (Nat.le_refl _)) (Nat.ne_of_lt (Nat.lt_succ_self _))
  have I2 := Inv.made (C := C) I
  have r2 : Vals (V.ref (s.heap.objs.size + 1) :: vs) (Value.ref (s.heap.objs.size + 1) :: us) := .cons rfl r
  have hl : (Value.ref (s.heap.objs.size + 1) :: us ++ []).length = ps.length := by
    rw [List.append_nil,List.length_cons,<- r.length]
    exact hln
  have bd := hb _ (Value.ref (s.heap.objs.size + 1) :: us) I2.kIn hl
  rw [List.append_nil] at bd
  refine wpAny_call (make_map (f := f) I.kIn M.makes M.init (beq_iff_eq.mp M.fn) (codeAny_mono (F.run _ X.stack _ _ ⟨Value.ref (s.heap.objs.size + 1) :: us,[]⟩ (Value.ref (s.heap.objs.size + 1) :: us) _ _ (hr.make C us []) hgd
    (I2.env0.make C us []) bd r2 hln hq) fun r s' hq' => ?_))
  cases r with
  | error e => exact False.elim hq'
  | ok fl =>
    cases fl with
    | ret u =>
      obtain ⟨v,H',I3,rv,ev,q3⟩ := I2.after hq'
      subst ev
      exact ⟨rv,⟨V.ref (s.heap.objs.size + 1),H',I3,rfl,q3⟩⟩
    | next => exact False.elim hq'
    | brk => exact False.elim hq'
    | cont => exact False.elim hq'
theorem h2a {C f : Addr} {k : Nat} {fd : FuncData} {ps : List Str} {sp : Sp0} {x : Str} {p pos : Pos} {e : Expr} {es : List Expr} {t : TA} (M : Mk X.K C f) (F : FnG X.prog X.w X.K X.mg X.base k f fd ps sp) (hr : Room (k + 1) X.A) (hgd : X.A.guards = some []) (hg : Gl X x) (hm : X.mg x = some (.ref C)) (hb : Binds X.K fd ps [])
    (ha : PA X (e :: es) t) (hdb : (x == ("__debug__" : Str)) = false) (he : starEach (e :: es) X.env = (false,eval e X.env) :: starEach es X.env) (hpl : (backTo pos (starEach es X.env)).any (·.1) = false) :
    PE X (.Call (.Name x p) (e :: es) [] pos) (tMakeG C ps.length sp t) := by
  refine ⟨fun pins s σ H Q I h => ?_⟩
  refine wpAny_Call_Name_kw (ld_glob I hg hm ?_ hdb)
  refine PySem.W.callWith_K (h₀ := X.base) I.ok.mod.kin M.kp (thn (ha.run pos pins s σ H _ I h) fun us s1 ⟨vs,H1,I1,r,hl,q⟩ => ⟨I1.kIn,?_⟩) he hpl
  exact lFa M F hr hgd hb hl I1 r q
def newW (c q : Str) (F : Loc -> Cells -> (List D -> Cells -> Prop) -> Prop) (G : SF) : SE := fun L cs Q => F L cs fun ds cs1 => G q (.ref cs1.length :: ds) (cs1 ++ [.inst c []]) fun d cs2 => d = .non /\ Q (.ref cs1.length) cs2
theorem Rl.instCell {K : PySem.W.Frag} {p : Pm} {σ : L2.St} {H : Hp} {L : Loc} {cs : Cells} {c : Str} {C x dx : Addr} (R : Rl K p σ H L cs) (hC : CAt K c C) (hx : H x = none) (hd : H dx = none) (ne : dx ≠ x) :
    Rl K { p with cell := p.cell ++ [x] } σ (upd (upd H dx (.own x)) x (.ins C dx [])) L (cs ++ [.inst c []]) /\ ExtE p { p with cell := p.cell ++ [x] } H (upd (upd H dx (.own x)) x (.ins C dx [])) := by
  obtain ⟨R1,x1⟩ := R.new (o := .own x) hd
  have hx1 : upd H dx (.own x) x = none := by rw [upd_ne (Ne.symm ne)]; exact hx
  obtain ⟨R2,x2⟩ := R1.new (o := .ins C dx []) hx1
  have x12 := x1.trans x2
  have hM : ¬ p.M x := R.M hx
  have st : ∀ b,H b ≠ none -> (upd (upd H dx (.own x)) x (.ins C dx [])) b = H b := fun b hb => by
    rw [upd_ne (fun e => hb (by rw [e]; exact hx)),upd_ne (fun e => hb (by rw [e]; exact hd))]
  have m : Mv p { p with cell := p.cell ++ [x] } H (upd (upd H dx (.own x)) x (.ins C dx [])) := by
    refine ⟨fun b u e n => ⟨(st b (by rw [e]; exact Option.some_ne_none u)).trans e,?_⟩,fun n b e => ?_⟩
    · rintro (q | q | q)
      · rcases List.mem_append.mp q with q | q
        · exact n (.inl q)
        · rw [List.mem_singleton.mp q,hx] at e; cases e
      · exact n (.inr (.inl q))
      · exact n (.inr (.inr q))
    · show (p.cell ++ [x])[n]? = some b
      rw [List.getElem?_append_left (List.getElem?_eq_some_iff.mp e).1]
      exact e
  refine ⟨⟨⟨?_,R.ok.inj,fun i b e hm => ?_,fun b e hm => ?_,R.ok.ro⟩,R.slen,fun i s e => ?_,R.ownL,⟨?_,fun n cl b e1 e2 => ?_⟩,fun b e => ?_⟩,⟨⟨⟨[x],rfl,fun b hb => by rw [List.mem_singleton.mp hb]; exact hx⟩,x12.ext.keep,x12.ext.ownN,x12.ext.rsv,x12.ext.dom⟩,rfl,x12.keepO⟩⟩
  · exact List.nodup_append.mpr ⟨R.ok.nd,by simp,fun a ha y hy e => hM (.inl (by rw [List.mem_singleton.mp hy] at e; rw [<- e]; exact ha))⟩
  · rcases List.mem_append.mp hm with q | q
    · exact R.ok.oc i b e q
    · exact hM (.inr (.inl ⟨i,by rw [<- List.mem_singleton.mp q]; exact e⟩))
  · rcases List.mem_append.mp hm with q | q
    · exact R.ok.rc b e q
    · exact hM (.inr (.inr (by rw [<- List.mem_singleton.mp q]; exact e)))
  · have q := R.slot i s e
    cases s with
    | no => trivial
    | val d =>
      obtain ⟨v,e1,r⟩ := q
      exact ⟨v,e1,r.mv m⟩
    | own d =>
      obtain ⟨b,e1,e2,c⟩ := q
      exact ⟨b,e1,e2,c.mv m (st b c.some)⟩
  · show (p.cell ++ [x]).length = (cs ++ [_]).length
    have : p.cell.length = cs.length := R.cells.len
    rw [List.length_append,List.length_append,this]
    rfl
  · have hlen : p.cell.length = cs.length := R.cells.len
    have e2 : (p.cell ++ [x])[n]? = some b := e2
    by_cases hlt : n < cs.length
    · rw [List.getElem?_append_left hlt] at e1
      rw [List.getElem?_append_left (by rw [hlen]; exact hlt)] at e2
      have q := R.cells.at_ n cl b e1 e2
      exact q.mv m (st b q.some)
    · have hn0 : n = cs.length := by
        have := (List.getElem?_eq_some_iff.mp e1).1
        rw [List.length_append] at this
        simp at this
        omega
      subst hn0
      rw [List.getElem?_append_right (Nat.le_refl _),Nat.sub_self] at e1
      rw [List.getElem?_append_right (by rw [hlen]; exact Nat.le_refl _),hlen,Nat.sub_self] at e2
      cases e1
      cases e2
      exact ⟨C,dx,[],upd_same,hC,rfl,.nil⟩
  · rw [st b (R.rsv b e).1]; exact R.rsv b e
theorem jRa {G : SF} {c q : Str} {F : Loc -> Cells -> (List D -> Cells -> Prop) -> Prop} {C f : Addr} {k : Nat} {fd : FuncData} {ps : List Str} {e : Expr} {es : List Expr} {p0 pos : Pos} (hF : SLm F) (hG : SFm G) (hC : CAt X.K c C) (M : Mk X.K C f)
    (Fn : FnG X.prog X.w X.K X.mg X.base k f fd ps (spG X.K G q)) (hr : Room (k + 1) X.A) (hgd : X.A.guards = some []) (hg : Gl X c) (hm : X.mg c = some (.ref C)) (hb : Binds X.K fd ps []) (hlen : ∀ L cs Q,F L cs Q -> F L cs fun ds cs' => ds.length + 1 = ps.length /\ Q ds cs') (ha : PA X (e :: es) (RAs X.K F)) (hdb : (c == ("__debug__" : Str)) = false)
    (hst : starEach (e :: es) X.env = (false,eval e X.env) :: starEach es X.env) (hpl : (backTo pos (starEach es X.env)).any (·.1) = false) :
    PE X (.Call (.Name c p0) (e :: es) [] pos) (RE X.K (newW c q F G)) :=
  (h2a M Fn hr hgd hg hm hb ha hdb hst hpl).imp fun σ H Q ⟨p,L,cs,R,w⟩ => ⟨p,L,cs,R,hF _ _ _ _ (fun ds cs1 ⟨hl,w⟩ vs p1 H1 R1 x1 r1 => ⟨by rw [r1.len]; exact hl,fun x dx hx hd ne => by
    obtain ⟨R2,x2⟩ := R1.instCell hC hx hd ne
    have hr : Rep X.K { p1 with cell := p1.cell ++ [x] } (upd (upd H1 dx (.own x)) x (.ins C dx [])) (.ref x) (.ref cs1.length) := .ref (by
      have : p1.cell.length = cs1.length := R1.cells.len
      rw [<- this,List.getElem?_append_right (Nat.le_refl _),Nat.sub_self]
      rfl)
    refine call_in (Q := fun v H2 => v = .non /\ Q (.ref x) H2) hG R2 .refl (.cons hr (r1.mv x2.ext.mv)) (hG _ _ _ _ _ (fun d cs' ⟨ed,w⟩ v p' H' R' x' r' => ?_) w)
    subst ed
    cases r'
    refine ⟨rfl,w _ p' H' R' ((x1.trans x2).trans x') (.ref (x'.ext.mv.cl _ _ ?_))⟩
    have : p1.cell.length = cs1.length := R1.cells.len
    show (p1.cell ++ [x])[_]? = some x
    rw [<- this,List.getElem?_append_right (Nat.le_refl _),Nat.sub_self]
    rfl⟩) (hlen _ _ _ w)⟩
end
end Sp
set_option autoImplicit true
namespace Sp
open PySem PySem.Spec PyProof.Rows L2
theorem eYa {K : PySem.W.Frag} {p : Pm} {H : Hp} {t : Ty} {v : V} {d : D} {b : Bool} (r : Rep K p H v d) (h : isiV t d = some b) : ∃ u : String,TyX K H v (.type u) /\ kitB u t.nm = some b := by
  cases r with
  | non => exact ⟨_,.base .non,by cases t <;> cases h <;> decide +kernel⟩
  | bl x => exact ⟨_,.base (.bl x),by cases t <;> cases h <;> decide +kernel⟩
  | int x => exact ⟨_,.base (.int x),by cases t <;> cases h <;> decide +kernel⟩
  | str x => exact ⟨_,.base (.str x),by cases t <;> cases h <;> decide +kernel⟩
  | @tup a vs ds ha _ ra => exact ⟨"tuple",.base (.tup ha),by cases t <;> cases h <;> decide +kernel⟩
  | @lst a vs ds ha ra =>
    refine ⟨"list",?_,by cases t <;> cases h <;> decide +kernel⟩
    rcases ha with ⟨ha | ⟨o,ha⟩,_⟩ | ⟨its,n,h1,_⟩
    · exact .base (.lst ha)
    · exact .base (.frz ha)
    · exact .kList h1 rfl
  | @dK a kvs ds ha _ _ =>
    refine ⟨"dict",?_,by cases t <;> cases h <;> decide +kernel⟩
    rcases ha with ha | ⟨o,ha⟩
    · exact .base (.dK ha)
    · exact .fDict ha
  | @dT a kvs ds ha _ _ => cases t <;> cases h
  | ref => cases t <;> cases h
  | @ptup a o vs ds ha hd _ ra => exact ⟨"tuple",.fTuple ha,by cases t <;> cases h <;> decide +kernel⟩
  | @vtup a vs ds ha _ ra =>
    refine ⟨"tuple",?_,by cases t <;> cases h <;> decide +kernel⟩
    rcases ha with ha | ⟨o,ha⟩
    · exact .base (.tup ha)
    · exact .fTuple ha
def isiW (t : Ty) (f : SE) : SE := fun L cs Q => f L cs fun d cs1 => match isiV t d with
  | some b => Q (.bl b) cs1
  | none => False
section
variable {X : Cx} {x : Expr} {f : SE} {pos : Pos}
theorem jFa {p0 p1 : Pos} {nm tn : Str} (t : Ty) (hf : SEm f) (hx : PE X x (RE X.K f)) (e1 : nm = ("isinstance" : Str)) (e2 : tn = (t.nm : Str)) (hg : Gl X nm) (hm : X.mg nm = none) (hg2 : Gl X tn) (hm2 : X.mg tn = none) (hs : starred x = false) :
    PE X (.Call (.Name nm p0) [x,.Name tn p1] [] pos) (RE X.K (isiW t f)) := by
  subst e1 e2
  have kn : PE X (.Name (t.nm : Str) p1) (tC (.ty t.nm)) := by
    cases t <;> exact pe_bltn hg2 hm2 rfl rfl (by decide) (by decide)
  have key : PE X (.Call (.Name ("isinstance" : Str) p0) [x,.Name (t.nm : Str) p1] [] pos) (tCB (rIsi X.K) (tCons (RE X.K f) (tCons (tC (.ty t.nm)) tNil))) :=
    pe_callB call_isi hg hm PyProof.Rows.boot_isinstance (pa_cons hx (pa_cons kn pa_nil) (aD hs _ _)) (by decide) (by decide) (aD hs _ _) rfl
  exact key.imp fun σ H Q ⟨p,L,cs,R,q⟩ => ⟨p,L,cs,R,hf _ _ _ _ (fun d cs1 w v p1 H1 R1 x1 r1 => by
    cases e : isiV t d with
    | none =>
      rw [e] at w
      exact w.elim
    | some b =>
      rw [e] at w
      obtain ⟨u,hu,hk⟩ := eYa r1 e
      exact ⟨v,_,_,_,b,rfl,.ty _,hu,kit_ty hk,w _ p1 H1 R1 x1 (.bl b)⟩) q⟩
end
section
variable {K : PySem.W.Frag} {G : SF} {con : Str -> Option D}
def trsOf (K : PySem.W.Frag) (G : SF) (con : Str -> Option D) : List Key -> CEs -> List (TE × TE)
  | k :: ks,.cons e r => ((fun σ H Q => Q (kV k) H),RE K (wpE G con e)) :: trsOf K G con ks r
  | _,_ => []
def CEs.ln : CEs -> Nat
  | .nil => 0
  | .cons _ r => r.ln + 1
theorem nN (hG : SFm G) : ∀ (ks : List Key) (as : CEs) {p : Pm} {a : Addr} {σ : L2.St} {H : Hp} {L : Loc} {cs : Cells} {Q : List (V × V) -> Hp -> Prop} {W : List D -> Cells -> Prop},ks.length = as.ln -> Rl K (p.with a) σ H L cs -> wpEs G con as L cs W ->
    (∀ (ds : List D) (cs' : Cells) (vs : List V) (p' : Pm) (H' : Hp),W ds cs' -> Rl K (p'.with a) σ H' L cs' -> ExtE (p.with a) (p'.with a) H H' -> Reps K (p'.with a) H' vs ds -> Q ((ks.zip vs).map fun q => (kV q.1,q.2)) H') -> tPairs (trsOf K G con ks as) σ H Q
  | [],.nil,p,a,σ,H,L,cs,Q,W,hl,R,h,q => q [] cs [] p H h R .refl .nil
  | [],.cons e r,p,a,σ,H,L,cs,Q,W,hl,R,h,q => by cases hl
  | k :: ks,.nil,p,a,σ,H,L,cs,Q,W,hl,R,h,q => by cases hl
  | k :: ks,.cons e r,p,a,σ,H,L,cs,Q,W,hl,R,h,q => by
    show RE K (wpE G con e) σ H fun y H2 => tPairs (trsOf K G con ks r) σ H2 fun ps H3 => Q ((kV k,y) :: ps) H3
    unfold wpEs at h
    refine ⟨p.with a,L,cs,R,aA hG e _ _ _ _ (fun d cs1 w v p1 H1 R1 x1 r1 => ?_) h⟩
    obtain ⟨p2,rfl,x2⟩ := x1.strip
    exact nN hG ks r (Nat.succ.inj hl) R1 w fun ds cs' vs p' H' w2 R2 x3 r2 => q (d :: ds) cs' (v :: vs) p' H' w2 R2 (x1.trans x3) (.cons (r1.mv x3.ext.mv) r2)
theorem o3 {p : Pm} {H : Hp} : ∀ (ks : List Key) {vs : List V} {ds : List D},Reps K p H vs ds -> RepX K p H (ks.zip vs) (ks.zip ds)
  | [],_,_,_ => .nil
  | _ :: _,_,_,.nil => .nil
  | _ :: ks,_,_,.cons h r => .cons h (o3 ks r)
end
section
variable {X : Cx} {x : Expr} {f : SE} {pos : Pos} {G : SF} {con : Str -> Option D}
theorem j6a {e : Expr} (hG : SFm G) (ks : List Key) (as : CEs) (hl : ks.length = as.ln) (h15 : ks.length <= 15) (hd : PE X e (tDisp (trsOf X.K G con ks as))) : PE X e (RF X.K (wpE G con (.ddis ks as))) :=
  hd.imp fun σ H Q ⟨p,L,cs,R,q⟩ a ha => by
    obtain ⟨R1,m1⟩ := R.more (o := .dK []) ha (fun _ e => nomatch e)
    have x0 := (R.new (o := .dK []) ha).2
    unfold wpE at q
    refine nN hG ks as hl R1 q fun ds cs' vs p' H' w R2 x2 r2 => ?_
    obtain ⟨p2,e2,x3⟩ := x2.strip
    rw [e2] at R2 r2
    have ea := x2.at R1 (upd_same : upd H a (.dK []) a = some (.dK []))
    refine ⟨ea,ks.zip vs,rfl,Nat.le_trans (by rw [List.length_zip]; exact Nat.min_le_left ..) h15,?_⟩
    obtain ⟨R3,m3⟩ := R2.poke (o := .dK (mergeK [] (ks.zip vs))) (fun _ e => nomatch e)
    refine w.2 a p2 _ R3 ((x0.trans x3).poke ha (fun i b e => R.ownSome e)) ha ?_ ⟨_,upd_same,(RepX.all .nil (o3 ks (r2.mv m3))).k⟩
    rintro (q | ⟨i,q⟩ | q)
    · exact R3.ok.rc a (.inl rfl) q
    · exact R3.ok.ro a (.inl rfl) i q
    · have e4 : p2.rsv = p.rsv := x3.ext.rsv
      rw [e4] at q
      exact (R.rsv a q).1 ha
def rNen (K : PySem.W.Frag) : R2 := fun x y H Q => ∃ (a b : Addr) (xs : List V),x = V.ref a /\ y = V.ref b /\ LsX K H a xs /\ H b = some (.lst []) /\ Q (.bl (!xs.isEmpty)) H
theorem nF (hu : X.A.units + 64 < cLine) : OpR X (compareOp .NotEq) (rNen X.K) := by
  intro pins s σ H x y v u Q I rx ry h
  obtain ⟨a,b,xs,rfl,rfl,ha,hb,q⟩ := h
  cases rx
  cases ry
  obtain ⟨its,n,rv,hl,hz,e⟩ := lsx I ha
  obtain ⟨_,its2,n2,rv2,e2⟩ := (show ObjOk X.prog X.w H s.heap b (.lst []) from I.hok _ _ hb)
  have h2 : its2 = [] := by cases rv2; rfl
  subst h2
  have l1 : s.heap.IsList a its.toArray := ⟨_,e,rfl,n,rfl⟩
  have l2 : s.heap.IsList b (([] : List Value)).toArray := ⟨_,e2,rfl,n2,rfl⟩
  have hu1 : X.A.units < cLine := by omega
  cases xs with
  | nil =>
    have hi : its = [] := List.length_eq_zero_iff.mp (by rw [<- hl]; rfl)
    subst hi
    refine (SeqAt.RcNeAt.lists (e := fun _ => true) l1 l2 rfl hu1 (fun j h1 => absurd h1 (by simp))) X.prog X.w _ _ ?_
    exact ⟨.bl _,H,I,rfl,q⟩
  | cons z r =>
    refine (SeqAt.RcNeAt.lists_lengths l1 l2 (by
      have : its.length = (z :: r).length := hl.symm
      simp [this]) hu1) X.prog X.w _ _ ?_
    exact ⟨.bl _,H,I,rfl,q⟩
def rTe0 (K : PySem.W.Frag) : R2 := fun x y H Q => ∃ (a b : Addr) (xs : List V),x = V.ref a /\ y = V.ref b /\ SqT K H a xs /\ SqT K H b [] /\ Q (.bl xs.isEmpty) H
theorem nH (hu : X.A.units + 64 < cLine) : OpR X (compareOp .Eq) (rTe0 X.K) := by
  intro pins s σ H x y v u Q I rx ry h
  obtain ⟨a,b,xs,rfl,rfl,ha,hb,q⟩ := h
  cases rx
  cases ry
  obtain ⟨its,r1,p1,_⟩ := I.tuple ha
  obtain ⟨its2,r2,p2,_⟩ := I.tuple hb
  cases r2
  have hu1 : X.A.units < cLine := by omega
  have e : ((List.range (min its.toArray.size ([] : List Value).toArray.size)).all (fun _ => true) && its.toArray.size == ([] : List Value).toArray.size) = xs.isEmpty := by
    have hl : xs.length = its.length := r1.length
    cases xs with
    | nil =>
      have : its = [] := List.length_eq_zero_iff.mp hl.symm
      subst this
      rfl
    | cons x r =>
      cases its with
      | nil => cases hl
      | cons y t => simp
  refine (SeqAt.RcAt.tuples (e := fun _ => true) p1 p2 hu1 (fun j h1 h2 => absurd h2 (by simp))) X.prog X.w _ _ ?_
  rw [e]
  exact ⟨.bl _,H,I,rfl,q⟩
end
end Sp
set_option autoImplicit true
namespace Sp
open PySem PySem.Spec PyProof.Rows L2
def visB (sc : Scope) (x : Str) : Bool :=
  match sc.names.lookup x with
  | some .local | some .cell | some .free => true
  | _ => false
def glB (sc : Scope) (x : Str) : Bool :=
  match sc.names.lookup x with
  | some .globalImplicit => true
  | _ => false
def locB (sc : Scope) (x : Str) : Bool :=
  match sc.names.lookup x with
  | some .local | some .cell => true
  | _ => false
def nmOk (x : Str) : Bool := !(x == ("__debug__" : Str)) && !(x == ("__classdict__" : Str))
def atN (N : List Str) (i : Nat) (x : Str) : Bool := decide (N[i]? = some x)
def CE.fresh : CE -> Bool
  | .lst _ => true
  | .comp _ _ _ _ _ => true
  | .bin _ _ _ => true
  | .sl _ _ _ => true
  | .bi .list _ => true
  | .bi .sorted _ => true
  | .bi .dictK _ => true
  | .bi .dictT _ => true
  | .dnew _ => true
  | .sset _ => true
  | .rev _ => true
  | .trv _ => true
  | .trg false _ _ => true
  | .ddis _ _ => true
  | _ => false
def CO.isNo : CO -> Bool
  | .no => true
  | .yes _ => false
def isBool : Expr -> Bool
  | .BoolOp _ _ _ => true
  | _ => false
def CEs.len : CEs -> Nat
  | .nil => 0
  | .cons _ r => r.len + 1
mutual
def chkTg (N : List Str) (sc : Scope) : Tg -> Expr -> Bool
  | .nm i,e => match e with
    | .Name x _ => atN N i x && locB sc x
    | _ => false
  | .tp ts,e => match e with
    | .Tuple es _ _ => chkTgs N sc ts es
    | _ => false
def chkTgs (N : List Str) (sc : Scope) : Tgs -> List Expr -> Bool
  | .nil,es => match es with
    | [] => true
    | _ => false
  | .cons t r,es => match es with
    | e :: es => chkTg N sc t e && chkTgs N sc r es
    | _ => false
end
def isTup : Expr -> Bool
  | .Tuple _ _ _ => true
  | _ => false
def ownN (N : List Str) (own : List Nat) : List (Str × Nat) := own.map fun i => ((N[i]?).getD ⟨#[]⟩,i)
def srcB : Src -> Bool
  | .val e => e.peeks.isSome
  | .rng1 _ => false
  | .rng2 _ _ => false
  | .enum e => e.peeks.isSome
  | .zip2 a b => a.peeks.isSome || b.peeks.isSome
  | .zip3 a b c => a.peeks.isSome || b.peeks.isSome || c.peeks.isSome
  | .chars _ => false
def keyB : Key -> Option Expr -> Bool
  | .inl i,some (.Constant (.int j) _ _) => decide (i = j)
  | .inr x,some (.Constant (.str y) _ _) => decide (x = y)
  | _,_ => false
def keysB : List Key -> List (Option Expr) -> Bool
  | [],[] => true
  | k :: r,e :: s => keyB k e && keysB r s
  | _,_ => false
def vtpE : Expr -> Bool
  | .Name _ _ => true
  | .Call _ _ _ _ => true
  | .Tuple _ _ _ => true
  | _ => false
mutual
def chkE (T : Tb) (N : List Str) : CE -> Scope -> Expr -> Bool
  | .non,sc,e => match e with
    | .Constant .none _ _ => true
    | _ => false
  | .bl b,sc,e => match e with
    | .Constant (.bool c) _ _ => b == c
    | _ => false
  | .int i,sc,e => match e with
    | .Constant (.int j) _ _ => decide (i = j)
    | _ => false
  | .str i,sc,e => match e with
    | .Constant (.str j) _ _ => decide (i = j)
    | _ => false
  | .var i,sc,e => match e with
    | .Name x _ => atN N i x && visB sc x && nmOk x
    | _ => false
  | .peek i,sc,e => match e with
    | .Name x _ => atN N i x && visB sc x && nmOk x
    | _ => false
  | .glob y,sc,e => match e with
    | .Name x _ => decide (y = x) && glB sc x && nmOk x && T.con.contains x
    | _ => false
  | .bin o a b,sc,e => match e with
    | .BinOp x op y _ => decide (op = o.of) && chkE T N a sc x && chkE T N b sc y
    | _ => false
  | .neg a,sc,e => match e with
    | .UnaryOp .USub x _ => chkE T N a sc x
    | _ => false
  | .and a b,sc,e => match e with
    | .BoolOp .And (x :: y :: r) pos => chkE T N a sc x && (match r with
      | [] => chkE T N b sc y
      | z :: r => chkE T N b sc (.BoolOp .And (y :: z :: r) pos))
    | _ => false
  | .or a b,sc,e => match e with
    | .BoolOp .Or (x :: y :: r) pos => chkE T N a sc x && (match r with
      | [] => chkE T N b sc y
      | z :: r => chkE T N b sc (.BoolOp .Or (y :: z :: r) pos))
    | _ => false
  | .not a,sc,e => match e with
    | .UnaryOp .Not x _ => chkE T N a sc x
    | _ => false
  | .ife t a b,sc,e => match e with
    | .IfExp x y z _ => chkE T N t sc x && chkE T N a sc y && chkE T N b sc z
    | _ => false
  | .cmp o a b,sc,e => match e with
    | .Compare x [op] [y] _ => decide (op = o.of) && chkE T N a sc x && chkE T N b sc y && !isSet y
    | _ => false
  | .chain o p a b c,sc,e => match e with
    | .Compare x [op,op2] [y,z] _ => decide (op = o.of) && decide (op2 = p.of) && chkE T N a sc x && chkE T N b sc y && chkE T N c sc z && !isSet z
    | _ => false
  | .call f as,sc,e => match e with
    | .Call (.Name x _) es [] _ => decide (f = x) && glB sc x && nmOk x && decide (T.fns.lookup x = some as.len) && chkEs T N as sc es && es.all (fun e => !starred e)
    | _ => false
  | .bi f as,sc,e => match e with
    | .Call (.Name x _) es [] _ => decide (x = (f.nm : Str)) && glB sc x && T.blt.contains x && chkOs T N as sc es && es.all (fun e => !starred e) && !es.isEmpty
    | _ => false
  | .isi t a,sc,e => match e with
    | .Call (.Name n _) [x,.Name y _] [] _ => decide (n = ("isinstance" : Str)) && decide (y = (t.nm : Str)) && glB sc n && T.blt.contains n && glB sc y && T.blt.contains y && chkE T N a sc x && !starred x
    | _ => false
  | .dnew _,sc,e => match e with
    | .Dict [] [] _ => true
    | _ => false
  | .dget o k d,sc,e => match e with
    | .Call (.Attribute x name apos) [y,z] [] cpos => decide (name = ("get" : Str)) && chkE T N o sc x && chkE T N k sc y && chkE T N d sc z && !starred y && !starred z && baseB x && (apos.endLine == cpos.line)
    | _ => false
  | .lend f o,sc,e => match e with
    | .Call (.Name x _) [y] [] _ => decide (f = x) && glB sc x && nmOk x && decide (T.fns.lookup x = some 1) && chkE T N o sc y && !starred y
    | _ => false
  | .ptp a,sc,e => match e with
    | .Call (.Name n _) [x] [] _ => decide (n = ("tuple" : Str)) && glB sc n && T.blt.contains n && chkE T N a sc x && !starred x
    | _ => false
  | .pdis as,sc,e => match e with
    | .Tuple es _ _ => chkEs T N as sc es && es.all (fun e => !starred e)
    | _ => false
  | .tidx o k,sc,e => match e with
    | .Call (.Attribute x name apos) [y] [] cpos => decide (name = ("index" : Str)) && chkE T N o sc x && chkE T N k sc y && !starred y && baseB x && (apos.endLine == cpos.line)
    | _ => false
  | .lcnt o k,sc,e => match e with
    | .Call (.Attribute x name apos) [y] [] cpos => decide (name = ("count" : Str)) && chkE T N o sc x && chkE T N k sc y && !starred y && baseB x && (apos.endLine == cpos.line)
    | _ => false
  | .vtp o,sc,e => vtpE e && chkE T N o sc e
  | .dgetn o k d,sc,e => match e with
    | .Call (.Attribute x name apos) [y,z] [] cpos => decide (name = ("get" : Str)) && chkE T N o sc x && chkE T N k sc y && chkE T N d sc z && !starred y && !starred z && baseB x && (apos.endLine == cpos.line)
    | _ => false
  | .sm m o k,sc,e => match e with
    | .Call (.Attribute x name apos) [y] [] cpos => decide (name = (m.nm : Str)) && chkE T N o sc x && chkE T N k sc y && !starred y && baseB x && (apos.endLine == cpos.line)
    | _ => false
  | .six o k,sc,e => match e with
    | .Subscript x i _ => chkE T N o sc x && chkE T N k sc i && !isSlice i
    | _ => false
  | .sin n a b,sc,e => match e with
    | .Compare x [op] [y] _ => decide (op = (if n then .NotIn else .In)) && chkE T N a sc x && chkE T N b sc y && !isSet y
    | _ => false
  | .kix y a,sc,e => match e with
    | .Subscript (.Name x _) i _ => decide (y = x) && glB sc x && nmOk x && T.kds.contains x && chkE T N a sc i && !isSlice i
    | _ => false
  | .kget y a b,sc,e => match e with
    | .Call (.Attribute (.Name x p0) name apos) [i,j] [] cpos => decide (y = x) && glB sc x && nmOk x && T.kds.contains x && decide (name = ("get" : Str)) && chkE T N a sc i && chkE T N b sc j && !starred i && !starred j && (apos.endLine == cpos.line) && baseB (.Name x p0)
    | _ => false
  | .kin n y a,sc,e => match e with
    | .Compare i [op] [.Name x _] _ => decide (op = (if n then .NotIn else .In)) && decide (y = x) && glB sc x && nmOk x && T.kds.contains x && chkE T N a sc i
    | _ => false
  | .kmem n y a,sc,e => match e with
    | .Compare i [op] [.Name x _] _ => decide (op = (if n then .NotIn else .In)) && decide (y = x) && glB sc x && nmOk x && T.kts.contains x && chkE T N a sc i
    | _ => false
  | .maxd o,sc,e => match e with
    | .Call (.Name x _) [y] [⟨some k,.Constant (.int 0) _ _,_⟩] _ => decide (x = ("max" : Str)) && decide (k = ("default" : Str)) && glB sc x && T.blt.contains x && chkE T N o sc y && !starred y
    | _ => false
  | .bits o,sc,e => match e with
    | .Call (.Attribute x name apos) [] [] cpos => decide (name = ("bit_length" : Str)) && chkE T N o sc x && baseB x && (apos.endLine == cpos.line)
    | _ => false
  | .oth y a,sc,e => match e with
    | .Subscript (.Name x _) i _ => decide (y = x) && glB sc x && nmOk x && T.oth.contains x && chkE T N a sc i && !isSlice i
    | _ => false
  | .dget1 o k,sc,e => match e with
    | .Call (.Attribute x name apos) [y] [] cpos => decide (name = ("get" : Str)) && chkE T N o sc x && chkE T N k sc y && !starred y && baseB x && (apos.endLine == cpos.line)
    | _ => false
  | .lidx o k,sc,e => match e with
    | .Call (.Attribute x name apos) [y] [] cpos => decide (name = ("index" : Str)) && chkE T N o sc x && chkE T N k sc y && !starred y && baseB x && (apos.endLine == cpos.line)
    | _ => false
  | .sset a,sc,e => match e with
    | .Call (.Name n _) [.Call (.Name m _) [x] [] _] [] _ => decide (n = ("sorted" : Str)) && decide (m = ("set" : Str)) && glB sc n && T.blt.contains n && glB sc m && T.blt.contains m && chkE T N a sc x && !starred x
    | _ => false
  | .trv a,sc,e => match e with
    | .Call (.Name n _) [.Call (.Name m _) [x] [] _] [] _ => decide (n = ("tuple" : Str)) && decide (m = ("reversed" : Str)) && glB sc n && T.blt.contains n && glB sc m && T.blt.contains m && chkE T N a sc x && !starred x
    | _ => false
  | .rev a,sc,e => match e with
    | .Subscript x (.Slice none none (some (.UnaryOp .USub (.Constant (.int 1) _ _) _)) _) _ => chkE T N a sc x
    | _ => false
  | .trg t lo hi,sc,e => match e with
    | .Call (.Name n _) [.Call (.Name m _) [x] [] _] [] _ => decide (n = (if t = true then "tuple" else "list" : Str)) && decide (m = ("range" : Str)) && glB sc n && T.blt.contains n && glB sc m && T.blt.contains m && chkE T N hi sc x && !starred x && lo.isNo
    | .Call (.Name n _) [.Call (.Name m _) [x,y] [] _] [] _ => decide (n = (if t = true then "tuple" else "list" : Str)) && decide (m = ("range" : Str)) && glB sc n && T.blt.contains n && glB sc m && T.blt.contains m && chkY T N lo sc x && chkE T N hi sc y && !starred x && !starred y
    | _ => false
  | .sdef o k d,sc,e => match e with
    | .Call (.Attribute x name apos) [y,z] [] cpos => decide (name = ("setdefault" : Str)) && chkE T N o sc x && chkE T N k sc y && chkE T N d sc z && !starred y && !starred z && baseB x && (apos.endLine == cpos.line)
    | _ => false
  | .ddis ks as,sc,e => match e with
    | .Dict keys es _ => keysB ks keys && !ks.isEmpty && decide (ks.length <= 15) && decide (ks.length = as.ln) && chkEs T N as sc es && es.all (fun e => !starred e)
    | _ => false
  | .te0 a,sc,e => match e with
    | .Compare x [.Eq] [.Tuple [] _ _] _ => chkE T N a sc x
    | _ => false
  | .nen a,sc,e => match e with
    | .Compare x [.NotEq] [.List [] _] _ => chkE T N a sc x
    | _ => false
  | .fld o c f,sc,e => match e with
    | .Attribute x g _ => decide (g = f) && T.fds.contains (c,f) && chkE T N o sc x && baseB x
    | _ => false
  | .meth o c m q as,sc,e => match e with
    | .Call (.Attribute x name apos) es [] cpos => decide (name = m) && decide (T.mth.lookup (c,m) = some (q,as.len)) && chkE T N o sc x && chkEs T N as sc es && es.all (fun e => !starred e) && fewB es && baseB x && (apos.endLine == cpos.line)
    | _ => false
  | .new c q as,sc,e => match e with
    | .Call (.Name x _) es [] _ => decide (c = x) && glB sc x && nmOk x && decide (T.cls.lookup x = some (q,as.len)) && chkEs T N as sc es && es.all (fun e => !starred e) && !es.isEmpty
    | _ => false
  | .ix o i,sc,e => match e with
    | .Subscript x y _ => chkE T N o sc x && chkE T N i sc y && !isSlice y
    | _ => false
  | .sl o lo hi,sc,e => match e with
    | .Subscript x (.Slice l h none _) _ => chkE T N o sc x && chkC T N lo sc l && chkC T N hi sc h
    | _ => false
  | .tup as,sc,e => match e with
    | .Tuple es _ _ => chkEs T N as sc es && es.all (fun e => !starred e)
    | _ => false
  | .lst as,sc,e => match e with
    | .List es _ => chkEs T N as sc es && es.all (fun e => !starred e)
    | _ => false
  | .box c,sc,e => chkE T N c sc e && c.fresh
  | .mth o m as,sc,e => match e with
    | .Call (.Attribute x name apos) es [] cpos => decide (name = (m.nm : Str)) && chkE T N o sc x && chkEs T N as sc es && es.all (fun e => !starred e) && fewB es && baseB x && (apos.endLine == cpos.line)
    | _ => false
  | .comp own g src t b,sc,e => match e with
    | .ListComp elt [⟨tg,iter,ifs,asy⟩] scope _ => decide (asy = 0) && blkC N sc scope (ownN N own) && chkI T N src sc tg iter && chkTg N scope g tg && chkE T N b (relS scope sc) elt && !isSet iter && (tgSlots g).all own.contains &&
      (match ifs with
       | [] => (match t with
         | .no => true
         | .yes _ => false)
       | [c] => chkY T N t (relS scope sc) c
       | _ => false)
    | _ => false
def chkEs (T : Tb) (N : List Str) : CEs -> Scope -> List Expr -> Bool
  | .nil,sc,es => match es with
    | [] => true
    | _ => false
  | .cons c r,sc,es => match es with
    | e :: es => chkE T N c sc e && chkEs T N r sc es
    | _ => false
def chkOs (T : Tb) (N : List Str) : CEs -> Scope -> List Expr -> Bool
  | .nil,sc,es => match es with
    | [] => true
    | _ => false
  | .cons c r,sc,es => match es with
    | e :: es => chkE T N c sc e && chkOs T N r sc es
    | _ => false
def chkC (T : Tb) (N : List Str) : CO -> Scope -> Option Expr -> Bool
  | .no,sc,e => match e with
    | none => true
    | _ => false
  | .yes c,sc,e => match e with
    | some e => chkE T N c sc e
    | _ => false
def chkY (T : Tb) (N : List Str) : CO -> Scope -> Expr -> Bool
  | .no,sc,e => false
  | .yes c,sc,e => chkE T N c sc e
def chkI (T : Tb) (N : List Str) : Src -> Scope -> Expr -> Expr -> Bool
  | .val c,sc,tg,e => chkE T N c sc e
  | .rng1 a,sc,tg,e => match e with
    | .Call (.Name n _) [x] [] _ => decide (n = ("range" : Str)) && glB sc n && T.blt.contains n && chkE T N a sc x && !starred x
    | _ => false
  | .rng2 a b,sc,tg,e => match e with
    | .Call (.Name n _) [x,y] [] _ => decide (n = ("range" : Str)) && glB sc n && T.blt.contains n && chkE T N a sc x && chkE T N b sc y && !starred x && !starred y
    | _ => false
  | .enum a,sc,tg,e => match e with
    | .Call (.Name n _) [x] [] _ => decide (n = ("enumerate" : Str)) && glB sc n && T.blt.contains n && chkE T N a sc x && !starred x && isTup tg
    | _ => false
  | .zip2 a b,sc,tg,e => match e with
    | .Call (.Name n _) [x,y] [] _ => decide (n = ("zip" : Str)) && glB sc n && T.blt.contains n && chkE T N a sc x && chkE T N b sc y && !starred x && !starred y && isTup tg
    | _ => false
  | .zip3 a b c,sc,tg,e => match e with
    | .Call (.Name n _) [x,y,z] [] _ => decide (n = ("zip" : Str)) && glB sc n && T.blt.contains n && chkE T N a sc x && chkE T N b sc y && chkE T N c sc z && !starred x && !starred y && !starred z && isTup tg
    | _ => false
  | .chars c,sc,tg,e => chkE T N c sc e
end
end Sp
set_option autoImplicit true
namespace Sp
open PySem PySem.Spec PyProof.Rows L2
theorem oV {sc : Scope} {x : Str} (h : visB sc x = true) : Vis sc x := by
  unfold visB at h
  split at h
  · exact .inl (by assumption)
  · exact .inr (.inl (by assumption))
  · exact .inr (.inr (by assumption))
  · cases h
theorem g8 {sc : Scope} {x : Str} (h : locB sc x = true) : L2.Loc sc x := by
  unfold locB at h
  split at h
  · exact .inl (by assumption)
  · exact .inr (by assumption)
  · cases h
theorem aF {sc : Scope} {x : Str} (h : glB sc x = true) : sc.names.lookup x = some .globalImplicit := by
  unfold glB at h
  split at h
  · assumption
  · cases h
theorem aS {x : Str} (h : nmOk x = true) : (x == ("__debug__" : Str)) = false /\ (x == ("__classdict__" : Str)) = false := by
  unfold nmOk at h
  rw [Bool.and_eq_true] at h
  exact ⟨by simpa using h.1,by simpa using h.2⟩
theorem aK {N : List Str} {i : Nat} {x : Str} (h : atN N i x = true) : N[i]? = some x := of_decide_eq_true h
structure TgCx (X : Cx) (N : List Str) (sc : Scope) : Prop where
  hN : X.N = N
  nd : N.Nodup
  calm : X.calm = true
  loc : ∀ x,sc.names.lookup x = some .local -> X.env.scope.names.lookup x = some .local
  cell : ∀ x,sc.names.lookup x = some .cell -> X.env.scope.names.lookup x = some .cell /\ X.fn x = true
theorem kL {e : Expr} (h : starred e = false) (es : List Expr) (env : Env) : assignEach (e :: es) env = (false,assign e env) :: assignEach es env := by
  cases e <;> first | rfl | cases h
theorem kZ {N : List Str} {sc : Scope} {g : Tg} {e : Expr} (h : chkTg N sc g e = true) : starred e = false := by
  cases g <;> cases e <;> first | rfl | (unfold chkTg at h; cases h)
theorem lA {N : List Str} {sc : Scope} (env : Env) : ∀ {ts : Tgs} {es : List Expr},chkTgs N sc ts es = true -> (assignEach es env).length = tgLen ts /\ (assignEach es env).findIdx? (·.1) = none
  | .nil,[],_ => ⟨rfl,rfl⟩
  | .nil,_ :: _,h => by unfold chkTgs at h; cases h
  | .cons t r,[],h => by unfold chkTgs at h; cases h
  | .cons t r,e :: es,h => by
    unfold chkTgs at h
    simp only [Bool.and_eq_true] at h
    obtain ⟨h1,h2⟩ := lA env (ts := r) (es := es) h.2
    rw [kL (kZ h.1)]
    refine ⟨by rw [List.length_cons,h1,tgLen],?_⟩
    rw [List.findIdx?_cons,h2]
    rfl
mutual
theorem cD {X : Cx} {N : List Str} {sc : Scope} (g : TgCx X N sc) : ∀ {t : Tg} {e : Expr},chkTg N sc t e = true -> PG X e (gTg X.K t)
  | .nm i,e,h => by
    unfold chkTg at h
    split at h
    · rename_i x pos
      rw [Bool.and_eq_true] at h
      have hi := aK h.1
      rcases g8 h.2 with q | q
      · have q' := g.loc _ q
        exact pg_name (by rw [g.hN]; exact g.nd) (by rw [g.hN]; exact hi) (.inl q') (.inr q')
      · obtain ⟨q',f'⟩ := g.cell _ q
        exact pg_name (by rw [g.hN]; exact g.nd) (by rw [g.hN]; exact hi) (.inr q') (.inl f')
    · cases h
  | .tp ts,e,h => by
    unfold chkTg at h
    split at h
    · rename_i es k pos
      have r := lA X.env h
      exact ⟨fun pins s σ H v u Q I rv hw => hw.elim ((pg_tup g.calm (jO g h) r.1 r.2).run pins s σ H v u Q I rv) ((pg_lst g.calm (jO g h) r.1 r.2).run pins s σ H v u Q I rv)⟩
    · cases h
theorem jO {X : Cx} {N : List Str} {sc : Scope} (g : TgCx X N sc) : ∀ {t : Tgs} {e : List Expr},chkTgs N sc t e = true -> PGs X e (gTgs X.K t)
  | .nil,[],_ => pgs_nil
  | .nil,_ :: _,h => by unfold chkTgs at h; cases h
  | .cons t r,[],h => by unfold chkTgs at h; cases h
  | .cons t r,e :: es,h => by
    unfold chkTgs at h
    simp only [Bool.and_eq_true] at h
    exact pgs_cons (cD g h.1) (jO g h.2) (by rw [kL (kZ h.1)]; rfl)
end
section
variable {N : List Str} {T : Tb} {G : SF} {con : Str -> Option D}
theorem okV (hG : SFm G) (c : CE) : OkV c (wpE G con c) := by
  refine ⟨aA hG c,fun L cs Q h => ?_⟩
  cases e : c.peeks with
  | none => rw [aT e]; exact h
  | some i =>
    cases c <;> first
      | cases e
      | skip
    unfold opd
    simp only [CE.peeks]
    unfold wpE at h
    split at h
    · rename_i d hd
      rw [hd]
      exact h
    · exact h.elim
structure EOk (X : Cx) (G : SF) (con : Str -> Option D) (c : CE) (e : Expr) : Prop where
  pe : PE X e (RE X.K (wpE G con c))
  po : PE X e (RO X.K c (wpE G con c))
  pt : PT X e (RB X.K (tst c (wpE G con c)))
  pw : isBool e = true -> PW X e (RB X.K (tst c (wpE G con c)))
  rf : c.fresh = true -> PE X e (RF X.K (wpE G con c))
abbrev Plain (X : Cx) (e : Expr) : Prop := ∀ whole,isTrue e X.env whole = (do let v <- whole; standAt e.pos; holding [v] (truthy v))
theorem mkR {X : Cx} {c : CE} {e : Expr} (hG : SFm G) (hp : c.peeks = none) (h : PE X e (RR X.K (wpE G con c))) (he : Plain X e) (hb : isBool e = false) : EOk X G con c e :=
  have m := aA (con := con) hG c
  have o := aM hp (cF m h)
  ⟨cF m h,o,cE m o he,(fun z => by rw [hb] at z; cases z),fun _ => kHa m h⟩
theorem mkE {X : Cx} {c : CE} {e : Expr} (hG : SFm G) (hp : c.peeks = none) (hf : c.fresh = false) (h : PE X e (RE X.K (wpE G con c))) (he : Plain X e) (hb : isBool e = false) : EOk X G con c e :=
  have m := aA (con := con) hG c
  have o := aM hp h
  ⟨h,o,cE m o he,(fun z => by rw [hb] at z; cases z),(fun z => by rw [hf] at z; cases z)⟩
theorem iD : ∀ (as : CEs) L cs (Q : List D -> Cells -> Prop),SFm G -> wpEs G con as L cs Q -> wpEs G con as L cs fun ds cs' => ds.length = as.len /\ Q ds cs'
  | .nil,L,cs,Q,hG,h => ⟨rfl,h⟩
  | .cons c r,L,cs,Q,hG,h => by
    unfold wpEs at h ⊢
    refine aA hG c _ _ _ _ (fun d cs1 q => ?_) h
    refine aI hG r _ _ _ _ (fun ds cs2 q => ⟨by rw [List.length_cons,q.1]; rfl,q.2⟩) (iD r _ _ _ hG q)
theorem kF (hG : SFm G) (s : Src) : ∀ L cs Q,wpI G con s L cs Q -> wpI G con s L cs fun xs st cs1 => st L cs1 /\ Q xs st cs1 := by
  intro L cs Q h
  cases s with
  | val e =>
    unfold wpI at h ⊢
    exact aB (aA hG e) (fun u cs1 w => aC (fun xs q => ⟨aQ,q⟩) w) h
  | rng1 a =>
    unfold wpI at h ⊢
    refine aA hG a _ _ _ _ (fun d cs1 w => ?_) h
    cases d <;> first | exact w.elim | exact ⟨w.1,trivial,w.2⟩
  | rng2 a b =>
    unfold wpI at h ⊢
    refine aA hG a _ _ _ _ (fun d cs1 w => aA hG b _ _ _ _ (fun d2 cs2 w => ?_) w) h
    cases d <;> cases d2 <;> first | exact w.elim | exact ⟨w.1,w.2.1,trivial,w.2.2⟩
  | enum e =>
    unfold wpI at h ⊢
    exact aB (aA hG e) (fun u cs1 w => aC (fun xs q => ⟨aQ,q⟩) w) h
  | zip2 a b =>
    unfold wpI at h ⊢
    exact aB (aA hG a) (fun u cs1 w => aB (aA hG b) (fun v cs2 w => aC (fun xs w => aC (fun ys q => ⟨⟨aQ,aQ⟩,q⟩) w) w) w) h
  | zip3 a b c =>
    unfold wpI at h ⊢
    exact aB (aA hG a) (fun u cs1 w => aB (aA hG b) (fun v cs2 w => aB (aA hG c) (fun v3 cs3 w => aC (fun xs w => aC (fun ys w => aC (fun zs q => ⟨⟨aQ,aQ,aQ⟩,q⟩) w) w) w) w) w) h
  | chars e =>
    unfold wpI at h ⊢
    refine aA hG e _ _ _ _ (fun d cs1 w => ?_) h
    cases d <;> first | exact w.elim | exact ⟨trivial,w⟩
def ttC (G : SF) (con : Str -> Option D) : CO -> Option (CE × SE)
  | .no => none
  | .yes c => some (c,wpE G con c)
theorem mZ {scope sc : Scope} {x : Str} {k : NameKind} (hk : k ≠ .free) (h : scope.names.lookup x = some k) : (relS scope sc).names.lookup x = some k := lookup_relS_keep hk h
theorem kQ {X : Cx} (g : Gd X N T G con) (s : Shared) (H : Hp) (C : Addr) (cl : List (Str × Addr)) (fp : List Addr) (scope : Scope) : TgCx (X.blk s H scope (compEnvC scope cl C X.env) fp) N scope :=
  ⟨g.hN,g.nd,g.calm,fun x h => mZ (by decide) h,fun x h => ⟨mZ (by decide) h,by
    show (scope.names.lookup x == some .cell) = true
    rw [h]
    rfl⟩⟩
theorem plainC {X : Cx} {v k pos} : Plain X (.Constant v k pos) := fun _ => rfl
theorem plainN {X : Cx} {v pos} : Plain X (.Name v pos) := fun _ => rfl
theorem plainB {X : Cx} {a o b pos} : Plain X (.BinOp a o b pos) := fun _ => rfl
theorem plainU {X : Cx} {a pos} : Plain X (.UnaryOp .USub a pos) := fun _ => rfl
theorem plainCall {X : Cx} {a b c pos} : Plain X (.Call a b c pos) := fun _ => rfl
theorem plainS {X : Cx} {a b pos} : Plain X (.Subscript a b pos) := fun _ => rfl
theorem plainT {X : Cx} {a b pos} : Plain X (.Tuple a b pos) := fun _ => rfl
theorem plainL {X : Cx} {a pos} : Plain X (.List a pos) := fun _ => rfl
theorem plainLC {X : Cx} {a b c pos} : Plain X (.ListComp a b c pos) := fun _ => rfl
theorem bA {X : Cx} (g : Gd X N T G con) {x : Str} (h : T.blt.contains x = true) : X.mg x = none := g.blt x h
theorem mLa {X : Cx} {e : Expr} (h : vtpE e = true) : Plain X e /\ isBool e = false := by
  cases e <;> first | exact ⟨fun _ => rfl,rfl⟩ | cases h
theorem un64 {X : Cx} (g : Gd X N T G con) : X.A.units + 64 < cLine := by
  have := g.un
  omega
theorem kN {X : Cx} {a b : CE} {x y : Expr} {r : List Expr} {pos : Pos} (hG : SFm G) (ha : EOk X G con a x) (hb : PE X (.BoolOp .And (y :: r) pos) (RE X.K (wpE G con b))) (hw : PW X (.BoolOp .And (y :: r) pos) (RB X.K (tst b (wpE G con b)))) :
    EOk X G con (.and a b) (.BoolOp .And (x :: y :: r) pos) := by
  have ma := aA (con := con) hG a
  have mb := aA (con := con) hG b
  have pe : PE X (.BoolOp .And (x :: y :: r) pos) (RE X.K (wpE G con (.and a b))) := i3a ma mb ha.pe hb
  have pw : PW X (.BoolOp .And (x :: y :: r) pos) (RB X.K (tst (.and a b) (wpE G con (.and a b)))) :=
    (iVa (cJ ma) (cJ mb) ha.pt hw).imp fun σ H Q q => RB.imp' (fun L cs Q q => mCa rfl (okV hG a) (okV hG b) q) q
  exact ⟨pe,aM rfl pe,pw.pt,fun _ => pw,fun z => by cases z⟩
theorem kO {X : Cx} {a b : CE} {x y : Expr} {r : List Expr} {pos : Pos} (hG : SFm G) (ha : EOk X G con a x) (hb : PE X (.BoolOp .Or (y :: r) pos) (RE X.K (wpE G con b))) (hw : PW X (.BoolOp .Or (y :: r) pos) (RB X.K (tst b (wpE G con b)))) :
    EOk X G con (.or a b) (.BoolOp .Or (x :: y :: r) pos) := by
  have ma := aA (con := con) hG a
  have mb := aA (con := con) hG b
  have pe : PE X (.BoolOp .Or (x :: y :: r) pos) (RE X.K (wpE G con (.or a b))) := jSa ma mb ha.pe hb
  have pw : PW X (.BoolOp .Or (x :: y :: r) pos) (RB X.K (tst (.or a b) (wpE G con (.or a b)))) :=
    (i1a (cJ ma) (cJ mb) ha.pt hw).imp fun σ H Q q => RB.imp' (fun L cs Q q => mDa rfl (okV hG a) (okV hG b) q) q
  exact ⟨pe,aM rfl pe,pw.pt,fun _ => pw,fun z => by cases z⟩
theorem ePa {X : Cx} {c : CE} {e : Expr} (h : chkE T N c X.env.scope e = true) (hf : c.fresh = true) : Plain X e /\ isBool e = false := by
  cases c
  case bin o a b =>
    unfold chkE at h
    split at h
    · exact ⟨fun _ => rfl,rfl⟩
    · exact nomatch h
  case sl o a b =>
    unfold chkE at h
    split at h
    · exact ⟨fun _ => rfl,rfl⟩
    · exact nomatch h
  case lst a =>
    unfold chkE at h
    split at h
    · exact ⟨fun _ => rfl,rfl⟩
    · exact nomatch h
  case dnew a =>
    unfold chkE at h
    split at h
    · exact ⟨fun _ => rfl,rfl⟩
    · exact nomatch h
  case ddis a b =>
    unfold chkE at h
    split at h
    · exact ⟨fun _ => rfl,rfl⟩
    · exact nomatch h
  case bi f a =>
    unfold chkE at h
    split at h
    · exact ⟨fun _ => rfl,rfl⟩
    · exact nomatch h
  case sset a =>
    unfold chkE at h
    split at h
    · exact ⟨fun _ => rfl,rfl⟩
    · exact nomatch h
  case rev a =>
    unfold chkE at h
    split at h
    · exact ⟨fun _ => rfl,rfl⟩
    · exact nomatch h
  case trg t lo hi =>
    unfold chkE at h
    split at h
    · exact ⟨fun _ => rfl,rfl⟩
    · exact ⟨fun _ => rfl,rfl⟩
    · exact nomatch h
  case trv a =>
    unfold chkE at h
    split at h
    · exact ⟨fun _ => rfl,rfl⟩
    · exact nomatch h
  case comp w g s t b =>
    unfold chkE at h
    split at h
    · exact ⟨fun _ => rfl,rfl⟩
    · exact nomatch h
  all_goals exact nomatch hf
theorem aE {x : Expr} (h : (!starred x) = true) : starred x = false := by simpa using h
theorem mM {X : Cx} : ∀ {k : Key} {e : Option Expr},keyB k e = true -> ∃ x,e = some x /\ PE X x (fun σ H Q => Q (kV k) H)
  | .inl i,e,h => by
    unfold keyB at h
    split at h
    · rename_i e1
      cases e1
      have hi := of_decide_eq_true h
      subst hi
      exact ⟨_,rfl,pe_int⟩
    · rename_i e1
      cases e1
    · cases h
  | .inr i,e,h => by
    unfold keyB at h
    split at h
    · rename_i e1
      cases e1
    · rename_i e1
      cases e1
      have hi := of_decide_eq_true h
      subst hi
      exact ⟨_,rfl,pe_str⟩
    · cases h
theorem mN {X : Cx} : ∀ {ks : List Key} {keys : List (Option Expr)},keysB ks keys = true -> keys.length = ks.length /\ keys.all (·.isSome) = true
  | [],[],_ => ⟨rfl,rfl⟩
  | [],_ :: _,h => by cases h
  | k :: r,e :: s,h => by
    unfold keysB at h
    rw [Bool.and_eq_true] at h
    obtain ⟨h1,h2⟩ := mN (X := X) h.2
    obtain ⟨x,rfl,_⟩ := mM (X := X) h.1
    exact ⟨by rw [List.length_cons,List.length_cons,h1],by rw [List.all_cons,h2]; rfl⟩
  | _ :: _,[],h => by cases h
theorem kY {T : Tb} {N : List Str} {sc : Scope} : ∀ {as : CEs} {es : List Expr},chkEs T N as sc es = true -> es.length = as.ln
  | .nil,[],_ => rfl
  | .nil,_ :: _,h => by unfold chkEs at h; cases h
  | .cons c r,[],h => by unfold chkEs at h; cases h
  | .cons c r,e :: es,h => by
    unfold chkEs at h
    simp only [Bool.and_eq_true] at h
    show es.length + 1 = r.ln + 1
    rw [kY h.2]
mutual
theorem okE (hG : SFm G) : ∀ (c : CE) (X : Cx) (e : Expr),Gd X N T G con -> chkE T N c X.env.scope e = true -> EOk X G con c e
  | .non,X,e,g,h => by
    unfold chkE at h
    split at h
    · exact mkE hG rfl rfl (eC pe_non fun p H => .non) plainC rfl
    · cases h
  | .bl b,X,e,g,h => by
    unfold chkE at h
    split at h
    · have h := eq_of_beq h
      subst h
      exact mkE hG rfl rfl (eC pe_bl fun p H => .bl _) plainC rfl
    · cases h
  | .int b,X,e,g,h => by
    unfold chkE at h
    split at h
    · have h := of_decide_eq_true h
      subst h
      exact mkE hG rfl rfl (eC pe_int fun p H => .int _) plainC rfl
    · cases h
  | .str b,X,e,g,h => by
    unfold chkE at h
    split at h
    · have h := of_decide_eq_true h
      subst h
      exact mkE hG rfl rfl (eC pe_str fun p H => .str _) plainC rfl
    · cases h
  | .var i,X,e,g,h => by
    unfold chkE at h
    split at h
    · simp only [Bool.and_eq_true] at h
      have n := aS h.2
      exact mkE hG rfl rfl (n0 (pe_var (by rw [g.hN]; exact aK h.1.1) (oV h.1.2) n.1 n.2)) plainN rfl
    · cases h
  | .peek i,X,e,g,h => by
    unfold chkE at h
    split at h
    · rename_i x pos
      simp only [Bool.and_eq_true] at h
      have n := aS h.2
      have v := pe_var (X := X) (i := i) (x := x) (pos := pos) (by rw [g.hN]; exact aK h.1.1) (oV h.1.2) n.1 n.2
      exact ⟨n0 v,n8 v,cE (aA hG _) (n8 v) plainN,(fun z => by cases z),fun z => by cases z⟩
    · cases h
  | .glob y,X,e,g,h => by
    unfold chkE at h
    split at h
    · simp only [Bool.and_eq_true] at h
      obtain ⟨⟨⟨h1,h2⟩,h3⟩,h4⟩ := h
      have h1 := of_decide_eq_true h1
      subst h1
      obtain ⟨d,v,u,hc,hm,r,hr⟩ := g.con _ h4
      refine mkE hG rfl rfl ?_ plainN rfl
      refine (eC (d := d) (pe_glob (aF h2) hm r (aS h3).1) hr).imp fun σ H Q ⟨p,L,cs,R,q⟩ => ⟨p,L,cs,R,?_⟩
      unfold wpE at q
      rw [hc] at q
      exact q
    · cases h
  | .dnew t,X,e,g,h => by
    unfold chkE at h
    split at h
    · exact mkR hG rfl ((kCa t).imp fun σ H Q ⟨p,L,cs,R,q⟩ => ⟨p,L,cs,R,by cases t <;> exact q⟩) (fun _ => rfl) rfl
    · cases h
  | .ddis ks as,X,e,g,h => by
    unfold chkE at h
    split at h
    · rename_i keys es pos
      simp only [Bool.and_eq_true] at h
      obtain ⟨⟨⟨⟨⟨h1,h2⟩,h3⟩,h4⟩,h5⟩,h6⟩ := h
      have h3 := of_decide_eq_true h3
      have h4 := of_decide_eq_true h4
      obtain ⟨k1,k2⟩ := mN (X := X) h1
      have hl := kY h5
      have hd : PE X (.Dict keys es pos) (tDisp (trsOf X.K G con ks as)) := pe_disp (okPs hG as ks X keys es g h1 h4 h5) k2 (by omega) (fun z => by
        subst z
        cases ks with
        | nil => cases h2
        | cons _ _ => cases k1) (by omega)
      have rf := j6a hG ks as h4 h3 hd
      have m := aA (con := con) hG (.ddis ks as)
      have pe : PE X (.Dict keys es pos) (RE X.K (wpE G con (.ddis ks as))) := (n7 m rf).imp fun σ H Q ⟨p,L,cs,R,q⟩ => ⟨p,L,cs,R,by
        unfold wpE at q ⊢
        exact aI hG as _ _ _ _ (fun ds c q => ⟨rfl,q⟩) q⟩
      have po := aM (c := .ddis ks as) rfl pe
      exact ⟨pe,po,cE m po (fun _ => rfl),(fun z => by cases z),fun _ => rf⟩
    · cases h
  | .te0 a,X,e,g,h => by
    unfold chkE at h
    split at h
    · rename_i x kk pl pos
      have ka := okE hG a X _ g h
      have kl : PE X (.Tuple [] kk pl) (RE X.K (wpE G con (.tup .nil))) := cF (aA hG (.tup .nil)) (jW (F := wpEs G con .nil) (aI hG .nil) nW)
      have key : ∀ {σ : L2.St} {H : Hp} {Q : V -> Hp -> Prop},(∃ p L cs,Rl X.K p σ H L cs /\ opd a (wpE G con a) L cs fun u cs1 => match view cs1 u with
          | .tup xs => ∀ p' H',Rl X.K p' σ H' L cs1 -> ExtE p p' H H' -> Q (.bl xs.isEmpty) H'
          | _ => False) -> tOp (rTe0 X.K) (RO X.K a (wpE G con a)) (RE X.K (wpE G con (.tup .nil))) σ H Q := fun ⟨p,L,cs,R,q⟩ => ⟨p,L,cs,R,by
        refine aB (aA hG a) (fun u cs1 w v1 p1 H1 R1 x1 r1 => ⟨p1,L,cs1,R1,?_⟩) q
        show 0 <= sizeLine /\ _
        refine ⟨Nat.zero_le _,fun v p2 H2 R2 x2 r2 => ?_⟩
        split at w
        · rename_i xs hv
          obtain ⟨b,vs,rfl,hb,rb⟩ := Rep.tupS r2
          cases rb
          have s1 := R2.view (r1.mv x2)
          rw [hv] at s1
          obtain ⟨c,ws,rfl,hc,rc⟩ := s1.tup
          have he : ws.isEmpty = xs.isEmpty := by
            have := rc.len
            cases ws <;> cases xs <;> first | rfl | cases this
          exact ⟨c,b,ws,rfl,rfl,hc,hb,by rw [he]; exact w p2 _ R2 (x1.trans x2)⟩
        · exact w.elim⟩
      have pe : PE X (.Compare x [.Eq] [.Tuple [] kk pl] pos) (RE X.K (wpE G con (.te0 a))) := by
        refine (pe_cmpR (nH (un64 g)) ka.po kl rfl).imp fun σ H Q ⟨p,L,cs,R,q⟩ => key ⟨p,L,cs,R,?_⟩
        unfold wpE at q
        refine aB (aA hG a) (fun u cs1 w => ?_) q
        split at w
        · rename_i xs hv
          try rw [hv]
          exact fun p' H' R' x' => w _ p' H' R' x' (.bl _)
        · exact w.elim
      have pt : PT X (.Compare x [.Eq] [.Tuple [] kk pl] pos) (RB X.K (tst (.te0 a) (wpE G con (.te0 a)))) := by
        refine (pt_cmpR (nH (un64 g)) ka.po kl rfl).imp fun σ H Q ⟨p,L,cs,R,q⟩ => key ⟨p,L,cs,R,?_⟩
        unfold tst at q
        rw [aT rfl] at q
        unfold wpE at q
        refine aB (aA hG a) (fun u cs1 w => ?_) q
        split at w
        · rename_i xs hv
          try rw [hv]
          exact fun p' H' R' x' => ⟨_,rfl,w.2 p' H' R' x'⟩
        · exact w.elim
      exact ⟨pe,aM rfl pe,pt,(fun z => by cases z),fun z => by cases z⟩
    · cases h
  | .nen a,X,e,g,h => by
    unfold chkE at h
    split at h
    · rename_i x pl pos
      have ka := okE hG a X _ g h
      have kl : PE X (.List [] pl) (RR X.K fun L cs Q => Q (.lst []) cs) := (pe_lst pa_nil).imp fun σ H Q ⟨p,L,cs,R,q⟩ => ⟨Nat.zero_le _,fun b hb => q _ p H _ R .refl ⟨b,[],rfl,hb,rfl,.nil⟩⟩
      have key : ∀ {σ : L2.St} {H : Hp} {Q : V -> Hp -> Prop},(∃ p L cs,Rl X.K p σ H L cs /\ opd a (wpE G con a) L cs fun u cs1 => match view cs1 u with
          | .lst xs => ∀ p' H',Rl X.K p' σ H' L cs1 -> ExtE p p' H H' -> Q (.bl (!xs.isEmpty)) H'
          | _ => False) -> tOp (rNen X.K) (RO X.K a (wpE G con a)) (RR X.K fun L cs Q => Q (.lst []) cs) σ H Q := fun ⟨p,L,cs,R,q⟩ => ⟨p,L,cs,R,by
        refine aB (aA hG a) (fun u cs1 w v1 p1 H1 R1 x1 r1 => ⟨p1,L,cs1,R1,fun v p2 H2 H' R2 x2 r2 => ?_⟩) q
        split at w
        · rename_i xs hv
          obtain ⟨b,vs,rfl,hb,rfl,rb⟩ := r2
          cases rb
          have s1 := R2.view (r1.mv x2)
          rw [hv] at s1
          obtain ⟨c,ws,rfl,hc,rc⟩ := s1
          obtain ⟨R3,x3⟩ := R2.new (o := .lst []) hb
          have ne : ∀ {u : HO},H2 c = some u -> c ≠ b := fun e z => by rw [z,hb] at e; cases e
          have hc3 : LsX X.K (upd H2 b (.lst [])) c ws := hc.elim (fun q => .inl (q.elim (fun q => .inl ((upd_ne (ne q)).trans q)) fun ⟨o,q⟩ => .inr ⟨o,(upd_ne (ne q)).trans q⟩)) .inr
          have he : ws.isEmpty = xs.isEmpty := by
            have := rc.len
            cases ws <;> cases xs <;> first | rfl | cases this
          exact ⟨c,b,ws,rfl,rfl,hc3,upd_same,by rw [he]; exact w p2 _ R3 ((x1.trans x2).trans x3)⟩
        · exact w.elim⟩
      have pe : PE X (.Compare x [.NotEq] [.List [] pl] pos) (RE X.K (wpE G con (.nen a))) := by
        refine (pe_cmpR (nF (un64 g)) ka.po kl rfl).imp fun σ H Q ⟨p,L,cs,R,q⟩ => key ⟨p,L,cs,R,?_⟩
        unfold wpE at q
        refine aB (aA hG a) (fun u cs1 w => ?_) q
        split at w
        · rename_i xs hv
          try rw [hv]
          exact fun p' H' R' x' => w _ p' H' R' x' (.bl _)
        · exact w.elim
      have pt : PT X (.Compare x [.NotEq] [.List [] pl] pos) (RB X.K (tst (.nen a) (wpE G con (.nen a)))) := by
        refine (pt_cmpR (nF (un64 g)) ka.po kl rfl).imp fun σ H Q ⟨p,L,cs,R,q⟩ => key ⟨p,L,cs,R,?_⟩
        unfold tst at q
        rw [aT rfl] at q
        unfold wpE at q
        refine aB (aA hG a) (fun u cs1 w => ?_) q
        split at w
        · rename_i xs hv
          try rw [hv]
          exact fun p' H' R' x' => ⟨_,rfl,w.2 p' H' R' x'⟩
        · exact w.elim
      exact ⟨pe,aM rfl pe,pt,(fun z => by cases z),fun z => by cases z⟩
    · cases h
  | .fld o c f,X,e,g,h => by
    unfold chkE at h
    split at h
    · simp only [Bool.and_eq_true] at h
      obtain ⟨⟨⟨h1,h2⟩,h3⟩,h4⟩ := h
      have h1 := of_decide_eq_true h1
      subst h1
      obtain ⟨C,hC,hn⟩ := g.fds _ _ h2
      refine mkE hG rfl rfl ?_ (fun _ => rfl) rfl
      unfold wpE
      exact jDa (aA hG o) (okE hG o X _ g h3).pe hC hn (aO h4 _ _ _)
    · cases h
  | .trv a,X,e,g,h => by
    unfold chkE at h
    split at h
    · simp only [Bool.and_eq_true] at h
      obtain ⟨⟨⟨⟨⟨⟨⟨h1,h2⟩,h3⟩,h4⟩,h5⟩,h6⟩,h7⟩,h8⟩ := h
      have h1 := of_decide_eq_true h1
      have h2 := of_decide_eq_true h2
      subst h1 h2
      exact mkR hG rfl (kNa g.calm (aA hG a) (aF h3) (bA g h4) (aF h5) (bA g h6) (okE hG a X _ g h7).pe (aE h8)) plainCall rfl
    · cases h
  | .rev a,X,e,g,h => by
    unfold chkE at h
    split at h
    · exact mkR hG rfl (kGa (aA hG a) (okE hG a X _ g h).po) plainS rfl
    · cases h
  | .trg t lo hi,X,e,g,h => by
    unfold chkE at h
    split at h
    · simp only [Bool.and_eq_true] at h
      obtain ⟨⟨⟨⟨⟨⟨⟨⟨h1,h2⟩,h3⟩,h4⟩,h5⟩,h6⟩,h7⟩,h8⟩,h9⟩ := h
      have h2 := of_decide_eq_true h2
      subst h2
      cases lo with
      | no => exact mkR hG rfl (kLa t (of_decide_eq_true h1) g.calm (aA hG hi) (aF h3) (bA g h4) (aF h5) (bA g h6) (okE hG hi X _ g h7).pe (aE h8)) plainCall rfl
      | yes c => cases h9
    · simp only [Bool.and_eq_true] at h
      obtain ⟨⟨⟨⟨⟨⟨⟨⟨⟨h1,h2⟩,h3⟩,h4⟩,h5⟩,h6⟩,h7⟩,h8⟩,h9⟩,h10⟩ := h
      have h2 := of_decide_eq_true h2
      subst h2
      cases lo with
      | no => unfold chkY at h7; cases h7
      | yes c =>
        unfold chkY at h7
        exact mkR hG rfl (kMa t (of_decide_eq_true h1) g.calm (aA hG c) (aA hG hi) (aF h3) (bA g h4) (aF h5) (bA g h6) (okE hG c X _ g h7).pe (okE hG hi X _ g h8).pe (aE h9) (aE h10)) plainCall rfl
    · cases h
  | .lend f o,X,e,g,h => by
    unfold chkE at h
    split at h
    · rename_i x p0 y pos
      simp only [Bool.and_eq_true] at h
      obtain ⟨⟨⟨⟨⟨h1,h2⟩,h3⟩,h4⟩,h5⟩,h6⟩ := h
      have h1 := of_decide_eq_true h1
      subst h1
      obtain ⟨k,a,fd,ps,hr,hm,hk,hb,hl,F⟩ := g.fns _ _ (of_decide_eq_true h4)
      exact mkE hG rfl rfl (jKa (aA hG o) hG F hr g.gu (aF h2) hm hk hb (aS h3).1 hl (okE hG o X _ g h5).po (aE h6)) plainCall rfl
    · cases h
  | .ptp a,X,e,g,h => by
    unfold chkE at h
    split at h
    · rename_i n p0 x pos
      simp only [Bool.and_eq_true] at h
      obtain ⟨⟨⟨⟨h1,h2⟩,h3⟩,h4⟩,h5⟩ := h
      have h1 := of_decide_eq_true h1
      subst h1
      exact mkE hG rfl rfl (jVa (aA hG a) (aF h2) (bA g h3) (okE hG a X _ g h4).po (aE h5)) plainCall rfl
    · cases h
  | .pdis as,X,e,g,h => by
    unfold chkE at h
    split at h
    · simp only [Bool.and_eq_true] at h
      exact mkE hG rfl rfl (jUa (aI hG as) (okEs hG as X _ g h.1 h.2)) plainT rfl
    · cases h
  | .tidx a b,X,e,g,h => by
    unfold chkE at h
    split at h
    · rename_i x name apos y cpos
      simp only [Bool.and_eq_true] at h
      obtain ⟨⟨⟨⟨⟨h1,h2⟩,h3⟩,h4⟩,h5⟩,h6⟩ := h
      have h1 := of_decide_eq_true h1
      subst h1
      exact mkE hG rfl rfl (jYa (un64 g) (aA hG a) (aA hG b) (okE hG a X _ g h2).po (okE hG b X _ g h3).pe (aE h4) h5 h6) plainCall rfl
    · cases h
  | .lcnt a b,X,e,g,h => by
    unfold chkE at h
    split at h
    · rename_i x name apos y cpos
      simp only [Bool.and_eq_true] at h
      obtain ⟨⟨⟨⟨⟨h1,h2⟩,h3⟩,h4⟩,h5⟩,h6⟩ := h
      have h1 := of_decide_eq_true h1
      subst h1
      exact mkE hG rfl rfl (jJa (aA hG a) (aA hG b) (okE hG a X _ g h2).po (okE hG b X _ g h3).pe (aE h4) h5 h6) plainCall rfl
    · cases h
  | .vtp a,X,e,g,h => by
    unfold chkE at h
    rw [Bool.and_eq_true] at h
    obtain ⟨h1,h2⟩ := mLa (X := X) h.1
    exact mkE hG rfl rfl (jZa (aA hG a) (okE hG a X _ g h.2).pe) h1 h2
  | .sm m a b,X,e,g,h => by
    unfold chkE at h
    split at h
    · rename_i x name apos y cpos
      simp only [Bool.and_eq_true] at h
      obtain ⟨⟨⟨⟨⟨h1,h2⟩,h3⟩,h4⟩,h5⟩,h6⟩ := h
      exact mkR hG rfl (kJa m (aA hG a) (aA hG b) (of_decide_eq_true h1) (okE hG a X _ g h2).pe (okE hG b X _ g h3).po (aE h4) h5 h6) plainCall rfl
    · cases h
  | .six a b,X,e,g,h => by
    unfold chkE at h
    split at h
    · rename_i x i pos
      simp only [Bool.and_eq_true] at h
      obtain ⟨⟨h1,h2⟩,h3⟩ := h
      exact mkE hG rfl rfl (jXa (aA hG a) (aA hG b) (okE hG a X _ g h1).pe (okE hG b X _ g h2).pe (by simpa using h3)) plainS rfl
    · cases h
  | .sin n a b,X,e,g,h => by
    unfold chkE at h
    split at h
    · rename_i x op y pos
      simp only [Bool.and_eq_true] at h
      obtain ⟨⟨⟨h1,h2⟩,h3⟩,h4⟩ := h
      have h1 : op = opSin n := of_decide_eq_true h1
      subst h1
      have ka := okE hG a X _ g h2
      have kb := okE hG b X _ g h3
      have h4 : isSet y = false := by simpa using h4
      have hr : ∀ p H v w d e (Q : VK),Rep X.K p H v d -> Rep X.K p H w e -> ok (sinV n d e) (fun t => Q (.bl t) H) -> rSin n v w H Q := fun p H v w d e Q r1 r2 q => lLa r1 r2 q
      have pe : PE X (.Compare x [opSin n] [y] pos) (RE X.K (wpE G con (.sin n a b))) := i6a (nG n) hr (aA hG a) (aA hG b) ka.pe kb.pe h4
      exact ⟨pe,aM rfl pe,iWa rfl (nG n) hr (aA hG a) (aA hG b) ka.pe kb.pe h4,(fun z => by cases z),fun z => by cases z⟩
    · cases h
  | .kix y a,X,e,g,h => by
    unfold chkE at h
    split at h
    · rename_i x p0 i pos
      simp only [Bool.and_eq_true] at h
      obtain ⟨⟨⟨⟨⟨h1,h2⟩,h3⟩,h4⟩,h5⟩,h6⟩ := h
      have h1 := of_decide_eq_true h1
      subst h1
      obtain ⟨ad,kvs,hm,hc,ho⟩ := g.kds _ h4
      exact mkE hG rfl rfl (jIa (aF h2) (aS h3).1 hm hc ho (aA hG a) (okE hG a X _ g h5).pe (by simpa using h6)) plainS rfl
    · cases h
  | .kget y a b,X,e,g,h => by
    unfold chkE at h
    split at h
    · rename_i x p0 name apos i j cpos
      simp only [Bool.and_eq_true] at h
      obtain ⟨⟨⟨⟨⟨⟨⟨⟨⟨⟨h1,h2⟩,h3⟩,h4⟩,hn⟩,h5⟩,h6⟩,h7⟩,h8⟩,h9⟩,hb⟩ := h
      have h1 := of_decide_eq_true h1
      subst h1
      have hn := of_decide_eq_true hn
      subst hn
      obtain ⟨ad,kvs,hm,hc,ho⟩ := g.kds _ h4
      have s1 := aE h7
      have s2 := aE h8
      refine mkE hG rfl rfl (jHa (aF h2) (aS h3).1 hm hc ho (aA hG a) (aA hG b) (okE hG a X _ g h5).pe (okE hG b X _ g h6).pe ⟨aO hb _ _ _,aX (by simp [s1,s2]) (by simp [fewB]),h9,?_⟩) plainCall rfl
      rw [aD s1,aD s2]
      rfl
    · cases h
  | .kin n y a,X,e,g,h => by
    unfold chkE at h
    split at h
    · rename_i i op x p0 pos
      simp only [Bool.and_eq_true] at h
      obtain ⟨⟨⟨⟨⟨h0,h1⟩,h2⟩,h3⟩,h4⟩,h5⟩ := h
      have h0 : op = opSin n := of_decide_eq_true h0
      subst h0
      have h1 := of_decide_eq_true h1
      subst h1
      obtain ⟨ad,kvs,hm,hc,ho⟩ := g.kds _ h4
      have ka := okE hG a X _ g h5
      have gl : PE X (.Name y p0) (tC (.ref ad)) := pe_glob (aF h2) hm rfl (aS h3).1
      have pe : PE X (.Compare i [opSin n] [.Name y p0] pos) (RE X.K (wpE G con (.kin n y a))) := nZ (nD ho n) (mQ hc) (aA hG a) ka.pe gl rfl
      exact ⟨pe,aM rfl pe,nX rfl (nD ho n) (mQ hc) (aA hG a) ka.pe gl rfl,(fun z => by cases z),fun z => by cases z⟩
    · cases h
  | .kmem n y a,X,e,g,h => by
    unfold chkE at h
    split at h
    · rename_i i op x p0 pos
      simp only [Bool.and_eq_true] at h
      obtain ⟨⟨⟨⟨⟨h0,h1⟩,h2⟩,h3⟩,h4⟩,h5⟩ := h
      have h0 : op = opSin n := of_decide_eq_true h0
      subst h0
      have h1 := of_decide_eq_true h1
      subst h1
      obtain ⟨ad,ss,hm,hc,ho⟩ := g.kts _ h4
      have ka := okE hG a X _ g h5
      have gl : PE X (.Name y p0) (tC (.ref ad)) := pe_glob (aF h2) hm rfl (aS h3).1
      have pe : PE X (.Compare i [opSin n] [.Name y p0] pos) (RE X.K (wpE G con (.kmem n y a))) := nZ (nE (un64 g) ho n) (mR hc) (aA hG a) ka.pe gl rfl
      exact ⟨pe,aM rfl pe,nX rfl (nE (un64 g) ho n) (mR hc) (aA hG a) ka.pe gl rfl,(fun z => by cases z),fun z => by cases z⟩
    · cases h
  | .maxd a,X,e,g,h => by
    unfold chkE at h
    split at h
    · rename_i x p0 y k j vp kp pos
      simp only [Bool.and_eq_true] at h
      obtain ⟨⟨⟨⟨⟨h1,h2⟩,h3⟩,h4⟩,h5⟩,h6⟩ := h
      have h1 := of_decide_eq_true h1
      have h2 := of_decide_eq_true h2
      subst h1
      subst h2
      exact mkE hG rfl rfl (jMa g.calm (un64 g) (aA hG a) (aF h3) (g.blt _ h4) (okE hG a X _ g h5).po (aE h6)) plainCall rfl
    · cases h
  | .bits a,X,e,g,h => by
    unfold chkE at h
    split at h
    · rename_i x name apos cpos
      simp only [Bool.and_eq_true] at h
      obtain ⟨⟨⟨h1,h2⟩,h3⟩,h4⟩ := h
      have h1 := of_decide_eq_true h1
      subst h1
      exact mkE hG rfl rfl (i4a (aA hG a) (okE hG a X _ g h2).pe h3 h4) plainCall rfl
    · cases h
  | .oth y a,X,e,g,h => by
    unfold chkE at h
    split at h
    · rename_i x p0 i pos
      simp only [Bool.and_eq_true] at h
      obtain ⟨⟨⟨⟨⟨h1,h2⟩,h3⟩,h4⟩,h5⟩,h6⟩ := h
      have h1 := of_decide_eq_true h1
      subst h1
      obtain ⟨ad,hm,ho⟩ := g.oth _ h4
      exact mkE hG rfl rfl (jTa (aF h2) (aS h3).1 hm ho (aA hG a) (okE hG a X _ g h5).pe (by simpa using h6)) plainS rfl
    · cases h
  | .dget1 a b,X,e,g,h => by
    unfold chkE at h
    split at h
    · rename_i x name apos y cpos
      simp only [Bool.and_eq_true] at h
      obtain ⟨⟨⟨⟨⟨h1,h2⟩,h3⟩,h4⟩,h5⟩,h6⟩ := h
      have h1 := of_decide_eq_true h1
      subst h1
      have sy := aE h4
      refine mkE hG rfl rfl (jBa (un64 g) (aA hG a) (aA hG b) (okE hG a X _ g h2).po (okE hG b X _ g h3).pe ⟨aO h5 _ _ _,aX (by simp [sy]) (by simp [fewB]),h6,?_⟩) plainCall rfl
      rw [aD sy]
      rfl
    · cases h
  | .lidx a b,X,e,g,h => by
    unfold chkE at h
    split at h
    · rename_i x name apos y cpos
      simp only [Bool.and_eq_true] at h
      obtain ⟨⟨⟨⟨⟨h1,h2⟩,h3⟩,h4⟩,h5⟩,h6⟩ := h
      have h1 := of_decide_eq_true h1
      subst h1
      exact mkE hG rfl rfl (jLa (aA hG a) (aA hG b) (okE hG a X _ g h2).po (okE hG b X _ g h3).pe (aE h4) h5 h6) plainCall rfl
    · cases h
  | .sdef a b c,X,e,g,h => by
    unfold chkE at h
    split at h
    · rename_i x name apos y z cpos
      simp only [Bool.and_eq_true] at h
      obtain ⟨⟨⟨⟨⟨⟨⟨h1,h2⟩,h3⟩,h4⟩,h5⟩,h6⟩,h7⟩,h8⟩ := h
      have h1 := of_decide_eq_true h1
      subst h1
      have sy := aE h5
      have sz := aE h6
      refine mkE hG rfl rfl (jWa (aA hG a) (aA hG b) (aA hG c) (okE hG a X _ g h2).pe (okE hG b X _ g h3).pe (okE hG c X _ g h4).pe ⟨aO h7 _ _ _,aX (by simp [sy,sz]) (by simp [fewB]),h8,?_⟩) plainCall rfl
      rw [aD sy,aD sz]
      rfl
    · cases h
  | .meth o c m q as,X,e,g,h => by
    unfold chkE at h
    split at h
    · rename_i x name apos es cpos
      simp only [Bool.and_eq_true] at h
      obtain ⟨⟨⟨⟨⟨⟨⟨h1,h2⟩,h3⟩,h4⟩,h5⟩,h6⟩,h7⟩,h8⟩ := h
      have h1 := of_decide_eq_true h1
      subst h1
      obtain ⟨C,k,a,fd,ps,hC,hm,hr,hb,hl,F⟩ := g.mth _ _ _ _ (of_decide_eq_true h2)
      have ko := okE hG o X _ g h3
      refine mkE hG rfl rfl ?_ plainCall rfl
      unfold wpE
      cases es with
      | nil =>
        cases as with
        | nil => exact jOa (aA hG o) hG ko.pe hC hm F hr g.gu hb hl h7 h8
        | cons c r => unfold chkEs at h4; cases h4
      | cons e es =>
        have h5' := h5
        rw [List.all_cons,Bool.and_eq_true] at h5
        exact jNa (aA hG o) (aI hG as) hG ko.pe hC hm F hr g.gu hb (fun L cs Q q => by rw [hl]; exact aI hG as _ _ _ _ (fun ds cs' q => ⟨by rw [q.1],q.2⟩) (iD as L cs Q hG q)) (okEs hG as X _ g h4 h5') (aD (aE h5.1) _ _) (b0 h5.2) h7 (aX h5' h6) h8
    · cases h
  | .new c q as,X,e,g,h => by
    unfold chkE at h
    split at h
    · rename_i x p0 es pos
      simp only [Bool.and_eq_true] at h
      obtain ⟨⟨⟨⟨⟨⟨h1,h2⟩,h3⟩,h4⟩,h5⟩,h6⟩,h7⟩ := h
      have h1 := of_decide_eq_true h1
      subst h1
      obtain ⟨C,k,a,fd,ps,hC,hm,hr,hM,hb,hl,F⟩ := g.cls _ _ _ (of_decide_eq_true h4)
      refine mkE hG rfl rfl ?_ plainCall rfl
      unfold wpE
      cases es with
      | nil => cases h7
      | cons e es =>
        have h6' := h6
        rw [List.all_cons,Bool.and_eq_true] at h6
        exact jRa (aI hG as) hG hC hM F hr g.gu (aF h2) hm hb (fun L cs Q q => by rw [hl]; exact aI hG as _ _ _ _ (fun ds cs' q => ⟨by rw [q.1],q.2⟩) (iD as L cs Q hG q)) (okEs hG as X _ g h5 h6') (aS h3).1 (aD (aE h6.1) _ _) (b0 h6.2)
    · cases h
  | .sset a,X,e,g,h => by
    unfold chkE at h
    split at h
    · rename_i n p1 m p2 x q2 pos
      simp only [Bool.and_eq_true] at h
      obtain ⟨⟨⟨⟨⟨⟨⟨h1,h2⟩,h3⟩,h4⟩,h5⟩,h6⟩,h7⟩,h8⟩ := h
      have h1 := of_decide_eq_true h1
      have h2 := of_decide_eq_true h2
      subst h1 h2
      exact mkR hG rfl (kKa g.calm (un64 g) (aA hG a) (aF h3) (bA g h4) (aF h5) (bA g h6) (okE hG a X _ g h7).po (aE h8)) plainCall rfl
    · cases h
  | .dget a b c,X,e,g,h => by
    unfold chkE at h
    split at h
    · rename_i x name apos y z cpos
      simp only [Bool.and_eq_true] at h
      obtain ⟨⟨⟨⟨⟨⟨⟨h1,h2⟩,h3⟩,h4⟩,h5⟩,h6⟩,h7⟩,h8⟩ := h
      have h1 := of_decide_eq_true h1
      subst h1
      have sy := aE h5
      have sz := aE h6
      refine mkE hG rfl rfl (jAa (un64 g) (aA hG a) (aA hG b) (aA hG c) (okE hG a X _ g h2).po (okE hG b X _ g h3).pe (okE hG c X _ g h4).pe ⟨aO h7 _ _ _,aX (by simp [sy,sz]) (by simp [fewB]),h8,?_⟩) plainCall rfl
      rw [aD sy,aD sz]
      rfl
    · cases h
  | .dgetn a b c,X,e,g,h => by
    unfold chkE at h
    split at h
    · rename_i x name apos y z cpos
      simp only [Bool.and_eq_true] at h
      obtain ⟨⟨⟨⟨⟨⟨⟨h1,h2⟩,h3⟩,h4⟩,h5⟩,h6⟩,h7⟩,h8⟩ := h
      have h1 := of_decide_eq_true h1
      subst h1
      have sy := aE h5
      have sz := aE h6
      refine mkE hG rfl rfl (jCa (un64 g) (aA hG a) (aA hG b) (aA hG c) (okE hG a X _ g h2).po (okE hG b X _ g h3).pe (okE hG c X _ g h4).pe ⟨aO h7 _ _ _,aX (by simp [sy,sz]) (by simp [fewB]),h8,?_⟩) plainCall rfl
      rw [aD sy,aD sz]
      rfl
    · cases h
  | .bin o a b,X,e,g,h => by
    unfold chkE at h
    split at h
    · simp only [Bool.and_eq_true] at h
      obtain ⟨⟨h1,h2⟩,h3⟩ := h
      have h1 := of_decide_eq_true h1
      subst h1
      exact mkR hG rfl (kAa o (aA hG a) (aA hG b) (okE hG a X _ g h2).po (okE hG b X _ g h3).po) plainB rfl
    · cases h
  | .neg a,X,e,g,h => by
    unfold chkE at h
    split at h
    · exact mkR hG rfl (kEa (aA hG a) (okE hG a X _ g h).pe) plainU rfl
    · cases h
  | .and a b,X,e,g,h => by
    unfold chkE at h
    split at h
    · rename_i x y r pos
      simp only [Bool.and_eq_true] at h
      cases r with
      | nil =>
        have kb := okE hG b X y g h.2
        exact kN hG (okE hG a X x g h.1) (pe_one kb.pe) (pw_and1 kb.pt)
      | cons z r =>
        have kb := okE hG b X _ g h.2
        exact kN hG (okE hG a X x g h.1) kb.pe (kb.pw rfl)
    · cases h
  | .or a b,X,e,g,h => by
    unfold chkE at h
    split at h
    · rename_i x y r pos
      simp only [Bool.and_eq_true] at h
      cases r with
      | nil =>
        have kb := okE hG b X y g h.2
        exact kO hG (okE hG a X x g h.1) (pe_one kb.pe) (pw_or1 kb.pt)
      | cons z r =>
        have kb := okE hG b X _ g h.2
        exact kO hG (okE hG a X x g h.1) kb.pe (kb.pw rfl)
    · cases h
  | .not a,X,e,g,h => by
    unfold chkE at h
    split at h
    · rename_i x pos
      have ka := okE hG a X _ g h
      have m := aA (con := con) hG a
      have pe : PE X (.UnaryOp .Not x pos) (RE X.K (wpE G con (.not a))) := cF (aA hG (.not a)) (kFa (pos := pos) m ka.po)
      exact ⟨pe,aM rfl pe,i0a m rfl ka.pt,(fun z => by cases z),fun z => by cases z⟩
    · cases h
  | .ife t a b,X,e,g,h => by
    unfold chkE at h
    split at h
    · rename_i x y z pos
      simp only [Bool.and_eq_true] at h
      obtain ⟨⟨h1,h2⟩,h3⟩ := h
      have kt := okE hG t X _ g h1
      have ka := okE hG a X _ g h2
      have kb := okE hG b X _ g h3
      have pe : PE X (.IfExp x y z pos) (RE X.K (wpE G con (.ife t a b))) := jEa (pos := pos) (aA hG t) (aA hG a) (aA hG b) kt.pt ka.pe kb.pe
      exact ⟨pe,aM rfl pe,iZa (aA hG t) (okV hG a) (okV hG b) rfl kt.pt ka.pt kb.pt,(fun z => by cases z),fun z => by cases z⟩
    · cases h
  | .cmp o a b,X,e,g,h => by
    unfold chkE at h
    split at h
    · rename_i x op y pos
      simp only [Bool.and_eq_true] at h
      obtain ⟨⟨⟨h1,h2⟩,h3⟩,h4⟩ := h
      have h1 := of_decide_eq_true h1
      subst h1
      have ka := okE hG a X _ g h2
      have kb := okE hG b X _ g h3
      have h4 : isSet y = false := by simpa using h4
      have pe : PE X (.Compare x [o.of] [y] pos) (RE X.K (wpE G con (.cmp o a b))) := cF (aA hG (.cmp o a b)) (kBa (pos := pos) (un64 g) o (aA hG a) (aA hG b) ka.po kb.po h4)
      exact ⟨pe,aM rfl pe,iYa (un64 g) rfl o (aA hG a) (aA hG b) ka.po kb.po h4,(fun z => by cases z),fun z => by cases z⟩
    · cases h
  | .chain o p a b c,X,e,g,h => by
    unfold chkE at h
    split at h
    · rename_i x op op2 y z pos
      simp only [Bool.and_eq_true] at h
      obtain ⟨⟨⟨⟨⟨h1,h2⟩,h3⟩,h4⟩,h5⟩,h6⟩ := h
      have h1 := of_decide_eq_true h1
      have h2 := of_decide_eq_true h2
      subst h1 h2
      have ka := okE hG a X _ g h3
      have kb := okE hG b X _ g h4
      have kc := okE hG c X _ g h5
      have h6 : isSet z = false := by simpa using h6
      have pe : PE X (.Compare x [o.of,p.of] [y,z] pos) (RE X.K (wpE G con (.chain o p a b c))) := i9a (pos := pos) (un64 g) o p (aA hG a) (aA hG b) (aA hG c) ka.pe kb.pe kc.pe h6
      exact ⟨pe,aM rfl pe,iXa (un64 g) rfl o p (aA hG a) (aA hG b) (aA hG c) ka.pe kb.pe kc.pe h6,(fun z => by cases z),fun z => by cases z⟩
    · cases h
  | .call f as,X,e,g,h => by
    unfold chkE at h
    split at h
    · rename_i x p0 es pos
      simp only [Bool.and_eq_true] at h
      obtain ⟨⟨⟨⟨⟨h1,h2⟩,h3⟩,h4⟩,h5⟩,h6⟩ := h
      have h1 := of_decide_eq_true h1
      subst h1
      obtain ⟨k,a,fd,ps,hr,hm,hk,hb,hl,F⟩ := g.fns _ _ (of_decide_eq_true h4)
      refine mkE hG rfl rfl ?_ plainCall rfl
      cases es with
      | nil =>
        cases as with
        | nil => exact i8a hG F hr g.gu (aF h2) hm hk hb (aS h3).1 hl
        | cons c r => unfold chkEs at h5; cases h5
      | cons x es =>
        rw [List.all_cons,Bool.and_eq_true] at h6
        exact i7a (aI hG as) hG F hr g.gu (aF h2) hm hk hb (aS h3).1 (fun L cs Q q => by rw [hl]; exact iD as L cs Q hG q) (okEs hG as X _ g h5 (by rw [List.all_cons,Bool.and_eq_true]; exact h6)) (aE h6.1) h6.2
    · cases h
  | .bi f as,X,e,g,h => by
    unfold chkE at h
    split at h
    · rename_i x p0 es pos
      simp only [Bool.and_eq_true] at h
      obtain ⟨⟨⟨⟨⟨h1,h2⟩,h3⟩,h4⟩,h5⟩,h6⟩ := h
      cases es with
      | nil => cases h6
      | cons x es =>
        have h5' := h5
        rw [List.all_cons,Bool.and_eq_true] at h5
        exact mkR hG rfl (j9a g.calm g.gu (un64 g) f (iE hG as) (of_decide_eq_true h1) (aF h2) (g.blt _ h3) (okOs hG as X _ g h4 h5') (aE h5.1) h5.2) plainCall rfl
    · cases h
  | .isi t a,X,e,g,h => by
    unfold chkE at h
    split at h
    · simp only [Bool.and_eq_true] at h
      obtain ⟨⟨⟨⟨⟨⟨⟨h1,h2⟩,h3⟩,h4⟩,h5⟩,h6⟩,h7⟩,h8⟩ := h
      exact mkE hG rfl rfl (jFa t (aA hG a) (okE hG a X _ g h7).pe (of_decide_eq_true h1) (of_decide_eq_true h2) (aF h3) (g.blt _ h4) (aF h5) (g.blt _ h6) (by simpa using h8)) plainCall rfl
    · cases h
  | .ix o i,X,e,g,h => by
    unfold chkE at h
    split at h
    · simp only [Bool.and_eq_true] at h
      obtain ⟨⟨h1,h2⟩,h3⟩ := h
      exact mkE hG rfl rfl (jGa (un64 g) (aA hG o) (aA hG i) (okE hG o X _ g h1).po (okE hG i X _ g h2).pe (by simpa using h3)) plainS rfl
    · cases h
  | .sl o lo hi,X,e,g,h => by
    unfold chkE at h
    split at h
    · simp only [Bool.and_eq_true] at h
      obtain ⟨⟨h1,h2⟩,h3⟩ := h
      exact mkR hG rfl (kIa (aA hG o) (eN hG lo) (eN hG hi) (okE hG o X _ g h1).po (okC hG lo X _ g h2) (okC hG hi X _ g h3)) plainS rfl
    · cases h
  | .tup as,X,e,g,h => by
    unfold chkE at h
    split at h
    · simp only [Bool.and_eq_true] at h
      exact mkR hG rfl (jW (aI hG as) (okEs hG as X _ g h.1 h.2)) plainT rfl
    · cases h
  | .lst as,X,e,g,h => by
    unfold chkE at h
    split at h
    · simp only [Bool.and_eq_true] at h
      exact mkR hG rfl (kDa (aI hG as) (okEs hG as X _ g h.1 h.2)) plainL rfl
    · cases h
  | .box c,X,e,g,h => by
    unfold chkE at h
    simp only [Bool.and_eq_true] at h
    have k := okE hG c X e g h.1
    have m := aA (con := con) hG (.box c)
    have pe : PE X e (RE X.K (wpE G con (.box c))) := i5a (aA hG c) (k.rf h.2)
    have po := aM (c := .box c) rfl pe
    have nb : Plain X e /\ isBool e = false := ePa h.1 h.2
    exact ⟨pe,po,cE m po nb.1,(fun z => by rw [nb.2] at z; cases z),fun z => by cases z⟩
  | .mth o m as,X,e,g,h => by
    unfold chkE at h
    split at h
    · rename_i x name apos es cpos
      simp only [Bool.and_eq_true] at h
      obtain ⟨⟨⟨⟨⟨⟨h1,h2⟩,h3⟩,h4⟩,h5⟩,h6⟩,h7⟩ := h
      have h1 := of_decide_eq_true h1
      have ko := okE hG o X _ g h2
      refine mkE hG rfl rfl ?_ plainCall rfl
      cases es with
      | nil =>
        cases as with
        | nil => exact jQa (un64 g) m (aA hG o) h1 ko.pe h6 h7
        | cons c r => unfold chkEs at h3; cases h3
      | cons e es => exact jPa (un64 g) m (aA hG o) (aI hG as) h1 ko.pe (okEs hG as X _ g h3 h4) h6 h7 h4 h5
    · cases h
  | .comp own gt src t b,X,e,g,h => by
    unfold chkE at h
    split at h
    · rename_i elt tg iter ifs asy scope pos
      simp only [Bool.and_eq_true] at h
      obtain ⟨⟨⟨⟨⟨⟨⟨h0,h1⟩,h2⟩,h3⟩,h4⟩,h5⟩,h6⟩,h7⟩ := h
      have h0 := of_decide_eq_true h0
      subst h0
      have hown : (ownN N own).map (·.2) = own := by
        unfold ownN
        rw [List.map_map]
        exact List.map_id _
      have hg2 : ∀ i ∈ tgSlots gt,i ∈ own := fun i hi => by
        have := List.all_eq_true.mp h6 i hi
        simpa using this
      have kt : (t = .no /\ ifs = []) \/ ∃ tc c,t = .yes tc /\ ifs = [c] /\ chkE T N tc (relS scope X.env.scope) c = true := by
        split at h7
        · split at h7
          · exact .inl ⟨rfl,rfl⟩
          · cases h7
        · cases t with
          | no => unfold chkY at h7; cases h7
          | yes tc => unfold chkY at h7; exact .inr ⟨_,_,rfl,rfl,h7⟩
        · cases h7
      have ok := blkOk_by h1
      have key : PE X (.ListComp elt [⟨tg,iter,ifs,0⟩] scope pos) (tLc (RI X.K (srcB src) (wpI G con src)) (gTg X.K gt) (ttOf X.K (ttC G con t)) (RE X.K (wpE G con b)) own) := by
        rw [<- hown]
        refine pe_lc g.calm (by rw [g.hN]; exact g.nd) (okI hG src X tg iter g h2) (by rw [g.hN]; exact ok) (fun s H C cl fp => cD (kQ g s H C cl fp scope) h3) (fun s H C cl fp => ?_) (fun s H C cl fp => (okE hG b _ elt (g.blk s H scope _ fp) h4).pe) (i5 (by simpa using h5) _)
        rcases kt with ⟨e1,e2⟩ | ⟨tc,c,e1,e2,hc⟩
        · subst e1 e2
          exact pts_nil
        · subst e1 e2
          exact pts_one (okE hG tc _ c (g.blk s H scope _ fp) hc).pt
      have rf : PE X (.ListComp elt [⟨tg,iter,ifs,0⟩] scope pos) (RF X.K (wpE G con (.comp own gt src t b))) := by
        refine key.imp fun σ H Q q => oN (fun c f e => ?_) (aA hG b) (bV hG src) (kF hG src) hg2 ?_
        · cases t with
          | no => cases e
          | yes tc => cases e; exact okV hG _
        · cases t <;> exact q
      have m := aA (con := con) hG (.comp own gt src t b)
      have pe : PE X (.ListComp elt [⟨tg,iter,ifs,0⟩] scope pos) (RE X.K (wpE G con (.comp own gt src t b))) := by
        refine (n7 m rf).imp fun σ H Q ⟨p,L,cs,R,q⟩ => ⟨p,L,cs,R,?_⟩
        refine bV hG src L cs _ _ (fun xs st cs1 ⟨q1,q⟩ => ⟨q1,?_⟩) q
        exact bI (fun f e => by
          cases t with
          | no => cases e
          | yes tc => cases e; exact aA hG tc) (aA hG b) _ _ _ _ _ (fun ds cs2 q => ⟨rfl,q⟩) q
      have po := aM (c := .comp own gt src t b) rfl pe
      exact ⟨pe,po,cE m po plainLC,(fun z => by cases z),fun _ => rf⟩
    · cases h
theorem okEs (hG : SFm G) : ∀ (as : CEs) (X : Cx) (es : List Expr),Gd X N T G con -> chkEs T N as X.env.scope es = true -> es.all (fun e => !starred e) = true -> PA X es (RAs X.K (wpEs G con as))
  | .nil,X,[],g,h,hs => nW
  | .nil,X,_ :: _,g,h,hs => by unfold chkEs at h; cases h
  | .cons c r,X,[],g,h,hs => by unfold chkEs at h; cases h
  | .cons c r,X,e :: es,g,h,hs => by
    unfold chkEs at h
    simp only [Bool.and_eq_true] at h
    rw [List.all_cons,Bool.and_eq_true] at hs
    exact iUa (aA hG c) (aI hG r) (okE hG c X e g h.1).pe (okEs hG r X es g h.2 hs.2) (aE hs.1)
theorem okPs (hG : SFm G) : ∀ (as : CEs) (ks : List Key) (X : Cx) (keys : List (Option Expr)) (es : List Expr) {pos : Pos},Gd X N T G con -> keysB ks keys = true -> ks.length = as.ln -> chkEs T N as X.env.scope es = true -> PPs X pos keys es (trsOf X.K G con ks as)
  | .nil,ks,X,keys,es,pos,g,h1,h2,h3 => by
    cases ks with
    | cons _ _ => cases h2
    | nil =>
      cases keys with
      | cons _ _ => cases h1
      | nil =>
        cases es with
        | cons _ _ => unfold chkEs at h3; cases h3
        | nil => exact pps_nil
  | .cons c r,ks,X,keys,es,pos,g,h1,h2,h3 => by
    cases ks with
    | nil => cases h2
    | cons k ks =>
      cases es with
      | nil => unfold chkEs at h3; cases h3
      | cons e es =>
        cases keys with
        | nil => cases k <;> cases h1
        | cons ke keys =>
          unfold chkEs at h3
          simp only [Bool.and_eq_true] at h3
          unfold keysB at h1
          rw [Bool.and_eq_true] at h1
          obtain ⟨x,rfl,pk⟩ := mM (X := X) h1.1
          exact pps_cons pk (okE hG c X e g h3.1).pe (okPs hG r ks X keys es g h1.2 (Nat.succ.inj h2) h3.2)
theorem okOs (hG : SFm G) : ∀ (as : CEs) (X : Cx) (es : List Expr),Gd X N T G con -> chkOs T N as X.env.scope es = true -> es.all (fun e => !starred e) = true -> PA X es (RAo X.K (wpOs G con as))
  | .nil,X,[],g,h,hs => iTa
  | .nil,X,_ :: _,g,h,hs => by unfold chkOs at h; cases h
  | .cons c r,X,[],g,h,hs => by unfold chkOs at h; cases h
  | .cons c r,X,e :: es,g,h,hs => by
    unfold chkOs at h
    simp only [Bool.and_eq_true] at h
    rw [List.all_cons,Bool.and_eq_true] at hs
    exact iSa (aA hG c) (iE hG r) (okE hG c X e g h.1).po (okOs hG r X es g h.2 hs.2) (aE hs.1)
theorem okC (hG : SFm G) : ∀ (c : CO) (X : Cx) (e : Option Expr),Gd X N T G con -> chkC T N c X.env.scope e = true -> PO X e (RP X.K (wpC G con c))
  | .no,X,e,g,h => by
    unfold chkC at h
    split at h
    · exact j7a
    · cases h
  | .yes c,X,e,g,h => by
    unfold chkC at h
    split at h
    · exact j8a (aA hG c) (okE hG c X _ g h).pe
    · cases h
theorem okI (hG : SFm G) : ∀ (c : Src) (X : Cx) (tg e : Expr),Gd X N T G con -> chkI T N c X.env.scope tg e = true -> PI X tg e (RI X.K (srcB c) (wpI G con c))
  | .val c,X,tg,e,g,h => by
    unfold chkI at h
    exact iFa (aA hG c) (okE hG c X e g h).po
  | .rng1 c,X,tg,e,g,h => by
    unfold chkI at h
    split at h
    · simp only [Bool.and_eq_true] at h
      obtain ⟨⟨⟨⟨h1,h2⟩,h3⟩,h4⟩,h5⟩ := h
      have h1 := of_decide_eq_true h1
      subst h1
      exact iDa (aA hG c) (aF h2) (g.blt _ h3) (okE hG c X _ g h4).pe (by simpa using h5)
    · cases h
  | .rng2 c d,X,tg,e,g,h => by
    unfold chkI at h
    split at h
    · simp only [Bool.and_eq_true] at h
      obtain ⟨⟨⟨⟨⟨⟨h1,h2⟩,h3⟩,h4⟩,h5⟩,h6⟩,h7⟩ := h
      have h1 := of_decide_eq_true h1
      subst h1
      exact iEa (aA hG c) (aA hG d) (aF h2) (g.blt _ h3) (okE hG c X _ g h4).pe (okE hG d X _ g h5).pe (by simpa using h6) (by simpa using h7)
    · cases h
  | .enum c,X,tg,e,g,h => by
    unfold chkI at h
    split at h
    · simp only [Bool.and_eq_true] at h
      obtain ⟨⟨⟨⟨⟨h1,h2⟩,h3⟩,h4⟩,h5⟩,h6⟩ := h
      have h1 := of_decide_eq_true h1
      subst h1
      cases tg <;> first
        | exact iAa (aA hG c) (aF h2) (g.blt _ h3) (okE hG c X _ g h4).po (by simpa using h5)
        | cases h6
    · cases h
  | .zip2 c d,X,tg,e,g,h => by
    unfold chkI at h
    split at h
    · simp only [Bool.and_eq_true] at h
      obtain ⟨⟨⟨⟨⟨⟨⟨h1,h2⟩,h3⟩,h4⟩,h5⟩,h6⟩,h7⟩,h8⟩ := h
      have h1 := of_decide_eq_true h1
      subst h1
      cases tg <;> first
        | exact iGa (aA hG c) (aA hG d) (aF h2) (g.blt _ h3) (okE hG c X _ g h4).po (okE hG d X _ g h5).po (by simpa using h6) (by simpa using h7)
        | cases h8
    · cases h
  | .zip3 c d q,X,tg,e,g,h => by
    unfold chkI at h
    split at h
    · simp only [Bool.and_eq_true] at h
      obtain ⟨⟨⟨⟨⟨⟨⟨⟨⟨h1,h2⟩,h3⟩,h4⟩,h5⟩,h5'⟩,h6⟩,h7⟩,h7'⟩,h8⟩ := h
      have h1 := of_decide_eq_true h1
      subst h1
      cases tg <;> first
        | exact iHa (aA hG c) (aA hG d) (aA hG q) (aF h2) (g.blt _ h3) (okE hG c X _ g h4).po (okE hG d X _ g h5).po (okE hG q X _ g h5').po (by simpa using h6) (by simpa using h7) (by simpa using h7')
        | cases h8
    · cases h
  | .chars c,X,tg,e,g,h => by
    unfold chkI at h
    exact h9a (aA hG c) (okE hG c X e g h).pe
end
end
end Sp
set_option autoImplicit true
namespace Sp
open PySem PySem.Spec PyProof.Rows L2
structure EnOk (K : PySem.W.Frag) (n : Nat) (p : Pm) (H : Hp) (k : En) (D : Ends) : Prop where
  nx : ∀ L cs p' σ' H',k.nx L cs -> Rl K p' σ' H' L cs -> L.length = n -> Ext p p' H H' -> D.nx σ' H'
  rt : ∀ d cs v p' H',k.rt d cs -> p'.Ok -> CsOk K p' H' cs -> Ext p p' H H' -> Rep K p' H' v d -> D.rt v H'
  bk : ∀ L cs p' σ' H',k.bk L cs -> Rl K p' σ' H' L cs -> L.length = n -> Ext p p' H H' -> D.bk σ' H'
  ct : ∀ L cs p' σ' H',k.ct L cs -> Rl K p' σ' H' L cs -> L.length = n -> Ext p p' H H' -> D.ct σ' H'
theorem EnOk.mv {K : PySem.W.Frag} {n : Nat} {p p1 : Pm} {H H1 : Hp} {k : En} {D : Ends} (e : EnOk K n p H k D) (x : Ext p p1 H H1) : EnOk K n p1 H1 k D :=
  ⟨fun L cs p' σ' H' q R l y => e.nx L cs p' σ' H' q R l (x.trans y),fun d cs v p' H' q o c y r => e.rt d cs v p' H' q o c (x.trans y) r,
    fun L cs p' σ' H' q R l y => e.bk L cs p' σ' H' q R l (x.trans y),fun L cs p' σ' H' q R l y => e.ct L cs p' σ' H' q R l (x.trans y)⟩
abbrev SW := Loc -> Cells -> En -> Prop
def RS (K : PySem.W.Frag) (n : Nat) (F : SW) : TS := fun D σ H => ∃ p L cs k,Rl K p σ H L cs /\ L.length = n /\ EnOk K n p H k D /\ F L cs k
structure Gs (X : Cx) (N : List Str) (T : Tb) (G : SF) (con : Str -> Option D) : Prop where
  g : Gd X N T G con
  tg : TgCx X N X.env.scope
  pass : PassesOwn (model X.prog X.w) X.A X.env X.xe
def isComp : Expr -> Bool
  | .ListComp _ _ _ _ => true
  | .SetComp _ _ _ _ => true
  | .DictComp _ _ _ _ _ => true
  | _ => false
theorem eG {e : Expr} (h : isComp e = false) (t : Option Expr) (l : Nat) (env : Env) : swapsWith e t l env = pure false := by
  cases e <;> first | rfl | cases h
theorem l3a {e o i : Expr} {p : Pos} (l : Nat) (env : Env) : swapsWith e (some (.Subscript o i p)) l env = pure false := by
  cases e <;> rfl
theorem lZa {e o : Expr} {f : Str} {p : Pos} (l : Nat) (env : Env) : swapsWith e (some (.Attribute o f p)) l env = pure false := by
  cases e <;> rfl
theorem l4a {e : Expr} {es : List Expr} {k : Nat} {p : Pos} (l : Nat) (env : Env) : swapsWith e (some (.Tuple es k p)) l env = pure false := by
  cases e <;> rfl
theorem l0a {elt : Expr} {gs : List Comprehension} {scope : Scope} {pos py : Pos} {y : Str} {l : Nat} {env : Env} (hy : env.scope.names.lookup y ≠ some .local) : swapsWith (.ListComp elt gs scope pos) (some (.Name y py)) l env = pure false := by
  have ky : (env.kindOf y == some NameKind.local) = false := by
    unfold Env.kindOf
    cases e : env.scope.names.lookup y with
    | none => rfl
    | some k =>
      cases k <;> first
        | rfl
        | exact absurd e hy
  unfold swapsWith
  simp only [ky,Bool.and_false,Bool.false_and]
section
variable {X : Cx} {N : List Str} {T : Tb} {G : SF} {con : Str -> Option D} {e x y : Expr} {f g h : SE} {a b c : CE} {pos px : Pos}
theorem jY {te : TE} {i : Nat} {n : Str} (gs : Gs X N T G con) (hi : atN N i n = true) (hl : locB X.env.scope n = true) (he : PE X e te) (hs : swapsWith e (some (.Name n px)) pos.line X.env = pure false) : PS X (.Assign [.Name n px] e pos) (tAsg te (gName i)) := by
  have hN : X.N.Nodup := by rw [gs.g.hN]; exact gs.g.nd
  have hi' : X.N[i]? = some n := by rw [gs.g.hN]; exact aK hi
  rcases g8 hl with q | q
  · exact ps_set hN hi' (.inl q) he hs (.inr q)
  · exact ps_set hN hi' (.inr q) he hs (.inl (gs.tg.cell _ q).2)
structure SetOk (X : Cx) (G : SF) (con : Str -> Option D) (c : CE) (st : Stmt) (i : Nat) : Prop where
  re : PS X st (tAsg (RE X.K (wpE G con c)) (gName i))
  rf : c.fresh = true -> PS X st (tAsg (RF X.K (wpE G con c)) (gName i))
def chkSet (T : Tb) (N : List Str) (sc : Scope) (i : Nat) (c : CE) (tg e : Expr) : Bool :=
  match tg with
  | .Name n px => atN N i n && locB sc n && chkE T N c sc e && (match e with
    | .ListComp elt gens scope lpos => (match sc.names.lookup n with
      | some .local => (px.line == lpos.line) && !(scope.names.any fun (m,k) => m == n && (k == .local || k == .cell)) && (match sc.kind with
        | .function => true
        | _ => false)
      | _ => true)
    | e => !isComp e)
  | _ => false
theorem bLa (hG : SFm G) {own : List Nat} {gt : Tg} {src : Src} {t : CO} {b : CE} {K : PySem.W.Frag} {σ : L2.St} {H : Hp} {Q : VK} (q : RE K (wpE G con (.comp own gt src t b)) σ H Q) : RF K (wpE G con (.comp own gt src t b)) σ H Q := by
  obtain ⟨p,L,cs,R,q⟩ := q
  refine ⟨p,L,cs,R,?_⟩
  refine bV hG src L cs _ _ (fun xs st cs1 ⟨q1,q⟩ => ⟨q1,?_⟩) q
  exact bI (fun f e => by
    cases t with
    | no => cases e
    | yes tc => cases e; exact aA hG tc) (aA hG b) _ _ _ _ _ (fun ds cs2 w => ⟨rfl,fun a p' H' R' x' hn hM hC => w _ p' H' R'.less x' (lE hM hC)⟩) q
theorem a9a (hf : SEm f) {K : PySem.W.Frag} {σ : L2.St} {H : Hp} {Q : VK} (q : RE K (fun L cs Q => f L cs fun d cs1 => match d with
    | .lst ds => Q (.ref cs1.length) (cs1 ++ [.seq ds])
    | .dct ds => Q (.ref cs1.length) (cs1 ++ [.map ds])
    | .dctT ds => Q (.ref cs1.length) (cs1 ++ [.mapT ds])
    | _ => False) σ H Q) : RF K f σ H Q := by
  obtain ⟨p,L,cs,R,q⟩ := q
  refine ⟨p,L,cs,R,hf _ _ _ _ (fun d cs1 w => ?_) q⟩
  have key : ∀ {c : Cell},isOwn d = true -> (∀ v p' H',Rl K p' σ H' L (cs1 ++ [c]) -> ExtE p p' H H' -> Rep K p' H' v (.ref cs1.length) -> Q v H') -> (∀ K p H a,Con K p H a d -> CellOk K p H a c) ->
      isOwn d = true /\ ∀ a p' H',Rl K (p'.with a) σ H' L cs1 -> ExtE p p' H H' -> H a = none -> ¬ p'.M a -> Con K (p'.with a) H' a d -> Q (.ref a) H' := fun {c} ho w hc => by
    refine ⟨ho,fun a p' H' R' x' hn hM hC => ?_⟩
    obtain ⟨R2,x2⟩ := R'.toCell hM (hc _ _ _ _ hC)
    refine w _ _ _ R2 (ExtE.toCell (K := K) x' hn x2) (.ref ?_)
    show (p'.cell ++ [a])[cs1.length]? = some a
    rw [<- R'.cells.len,List.getElem?_append_right (Nat.le_refl _),Nat.sub_self]
    rfl
  cases d with
  | lst ds => exact key rfl w fun K p H a h => h
  | dct ds => exact key rfl w fun K p H a h => h
  | dctT ds => exact key rfl w fun K p H a h => h
  | _ => exact w.elim
theorem j9 {sm : Stmt} {te te' : TE} {gg : TG} (w : ∀ σ H Q,te' σ H Q -> te σ H Q) (h : PS X sm (tAsg te gg)) : PS X sm (tAsg te' gg) := h.imp fun D σ H q => w σ H _ q
theorem lD (hG : SFm G) {own : List Nat} {gt : Tg} {src : Src} {t : CO} {b : CE} {elt : Expr} {gens : List Comprehension} {scope : Scope} {n : Str} {i : Nat} {spos : Pos} (gs : Gs X N T G con) (hc : chkE T N (.comp own gt src t b) X.env.scope (.ListComp elt gens scope pos) = true)
    (hi : atN N i n = true) (hl : X.env.scope.names.lookup n = some .local) (h1 : (px.line == pos.line) = true) (h2 : (scope.names.any fun (m,k) => m == n && (k == .local || k == .cell)) = false) (hk : X.env.scope.kind = .function) :
    PS X (.Assign [.Name n px] (.ListComp elt gens scope pos) spos) (tAsg (RF X.K (wpE G con (.comp own gt src t b))) (gName i)) := by
  have g := gs.g
  have h := hc
  unfold chkE at h
  split at h
  · rename_i elt' tg iter ifs asy scope' pos' heq
    injection heq with e1 e2 e3 e4
    subst e1 e2 e3 e4
    simp only [Bool.and_eq_true] at h
    obtain ⟨⟨⟨⟨⟨⟨⟨h0,h1'⟩,h2'⟩,h3⟩,h4⟩,h5⟩,h6⟩,h7⟩ := h
    have h0 := of_decide_eq_true h0
    subst h0
    have hown : (ownN N own).map (·.2) = own := by
      unfold ownN
      rw [List.map_map]
      exact List.map_id _
    have hg2 : ∀ i ∈ tgSlots gt,i ∈ own := fun i hi => by
      have := List.all_eq_true.mp h6 i hi
      simpa using this
    have kt : (t = .no /\ ifs = []) \/ ∃ tc c,t = .yes tc /\ ifs = [c] /\ chkE T N tc (relS scope X.env.scope) c = true := by
      split at h7
      · split at h7
        · exact .inl ⟨rfl,rfl⟩
        · cases h7
      · cases t with
        | no => unfold chkY at h7; cases h7
        | yes tc => unfold chkY at h7; exact .inr ⟨_,_,rfl,rfl,h7⟩
      · cases h7
    have ok := blkOk_by h1'
    have key : PS X (.Assign [.Name n px] (.ListComp elt [⟨tg,iter,ifs,0⟩] scope pos) spos) (tAsg (tLc (RI X.K (srcB src) (wpI G con src)) (gTg X.K gt) (ttOf X.K (ttC G con t)) (RE X.K (wpE G con b)) own) (gName i)) := by
      rw [<- hown]
      refine ps_setLc g.calm (by rw [g.hN]; exact g.nd) (by rw [g.hN]; exact aK hi) hl (sw_true hk hl h1 h2) (okI hG src X tg iter g h2') (by rw [g.hN]; exact ok) (fun s H C cl fp => cD (kQ g s H C cl fp scope) h3) (fun s H C cl fp => ?_) (fun s H C cl fp => (okE hG b _ elt (g.blk s H scope _ fp) h4).pe) (i5 (by simpa using h5) _)
      rcases kt with ⟨e1,e2⟩ | ⟨tc,c,e1,e2,hcc⟩
      · subst e1 e2
        exact pts_nil
      · subst e1 e2
        exact pts_one (okE hG tc _ c (g.blk s H scope _ fp) hcc).pt
    refine j9 (fun σ H Q q => oN (fun c f e => ?_) (aA hG b) (bV hG src) (kF hG src) hg2 ?_) key
    · cases t with
      | no => cases e
      | yes tc => cases e; exact okV hG _
    · cases t <;> exact q
  · cases h
theorem okSet (hG : SFm G) {i : Nat} {tg : Expr} (gs : Gs X N T G con) (h : chkSet T N X.env.scope i c tg e = true) : SetOk X G con c (.Assign [tg] e pos) i := by
  unfold chkSet at h
  split at h
  · rename_i n px
    simp only [Bool.and_eq_true] at h
    obtain ⟨⟨⟨h1,h2⟩,h3⟩,h4⟩ := h
    have k := okE hG c X e gs.g h3
    have plain : swapsWith e (some (.Name n px)) pos.line X.env = pure false -> SetOk X G con c (.Assign [.Name n px] e pos) i := fun hs =>
      ⟨jY gs h1 h2 k.pe hs,fun hf => jY gs h1 h2 (k.rf hf) hs⟩
    split at h4
    · rename_i elt gens scope lpos
      split at h4
      · rename_i hl
        simp only [Bool.and_eq_true] at h4
        obtain ⟨⟨h5,h6⟩,h7⟩ := h4
        have hk : X.env.scope.kind = .function := by
          split at h7
          · assumption
          · cases h7
        have h6 : (scope.names.any fun (m,k) => m == n && (k == .local || k == .cell)) = false := by simpa using h6
        cases c with
        | comp own gt src t b =>
          have q := lD (px := px) (spos := pos) hG gs h3 h1 hl h5 h6 hk
          exact ⟨j9 (fun σ H Q q => bLa hG q) q,fun _ => q⟩
        | box c =>
          have h3' := h3
          unfold chkE at h3'
          simp only [Bool.and_eq_true] at h3'
          cases c with
          | comp own gt src t b =>
            have q := lD (px := px) (spos := pos) hG gs h3'.1 h1 hl h5 h6 hk
            exact ⟨j9 (fun σ H Q q => a9a (aA hG (.comp own gt src t b)) q) q,fun z => by cases z⟩
          | _ =>
            have z := h3'.1
            unfold chkE at z
            first
              | (simp at z; done)
              | (exfalso; exact absurd h3'.2 (by decide))
              | (exfalso; simp [CE.fresh] at h3'; done)
        | _ => exact absurd h3 (by unfold chkE; simp [vtpE])
      · rename_i hl
        exact plain (l0a fun z => hl z)
    · exact plain (eG (by simpa using h4) _ _ _)
  · cases h
end
end Sp
set_option autoImplicit true
namespace Sp
open PySem PySem.Spec PyProof.Rows L2
section
variable {X : Cx} {N : List Str} {T : Tb} {G : SF} {con : Str -> Option D} {e x y : Expr} {f g h : SE} {a b c : CE} {pos px : Pos} {n : Nat}
theorem n9 {sm : Stmt} {gt : Tg} (hf : SEm f) (hs : ∀ i ∈ tgSlots gt,i < n) (h : PS X sm (tAsg (RE X.K f) (gTg X.K gt))) : PS X sm (RS X.K n fun L cs k => f L cs fun d cs1 => asg gt d L fun L1 => k.nx L1 cs1) :=
  h.imp fun D σ H ⟨p,L,cs,k,R,hl,en,q⟩ => ⟨p,L,cs,R,hf _ _ _ _ (fun d cs1 w v p1 H1 R1 x1 r1 => by
    refine cI gt (fun σ2 H2 z => ?_) (dC gt p1 σ L v d _ R1 r1 (fun i hi => by rw [hl]; exact hs i hi) w)
    obtain ⟨eH,p3,L1,q,hL1,R3,x3,_⟩ := z
    have eH : H1 = H2 := eH.symm
    subst eH
    exact en.nx L1 cs1 p3 σ2 H1 q R3 (hL1.trans hl) (x1.ext.trans x3)) q⟩
theorem kZa {sm : Stmt} {i : Nat} (hf : SEm f) (hi : i < n) (h : PS X sm (tAsg (RF X.K f) (gName i))) : PS X sm (RS X.K n fun L cs k => f L cs fun d cs1 => isOwn d = true /\ k.nx (L.set i (.own d)) cs1) :=
  h.imp fun D σ H ⟨p,L,cs,k,R,hl,en,q⟩ => ⟨p,L,cs,R,hf _ _ _ _ (fun d cs1 w => ⟨w.1,fun a p' H' R' x' hn hM hC => en.nx _ cs1 _ _ H' w.2 (R'.give (by rw [hl]; exact hi) hM hC) (by rw [List.length_set]; exact hl) (dJ hn x'.ext)⟩) q⟩
theorem gS : ∀ (is : List Nat) (L : Loc),(frz is L).length = L.length
  | [],_ => rfl
  | i :: r,L => by
    unfold frz
    split
    · rw [gS r,List.length_set]
    · exact gS r L
theorem kTa {sm : Stmt} {is : List Nat} {F : SW} (h : PS X sm (RS X.K n F)) : PS X sm (RS X.K n fun L cs k => F (frz is L) cs k) :=
  h.imp fun D σ H ⟨p,L,cs,k,R,hl,en,q⟩ => by
    obtain ⟨p',R',x'⟩ := Rl.frz is R
    exact ⟨p',frz is L,cs,k,R',(gS is L).trans hl,en.mv x',q⟩
theorem kRa {sm : Stmt} (hf : SEm f) (h : PS X sm (tDrop (RE X.K f))) : PS X sm (RS X.K n fun L cs k => f L cs fun _ cs1 => k.nx L cs1) :=
  h.imp fun D σ H ⟨p,L,cs,k,R,hl,en,q⟩ => ⟨p,L,cs,R,hf _ _ _ _ (fun d cs1 w v p1 H1 R1 x1 r1 => en.nx L cs1 p1 σ H1 w R1 hl x1.ext) q⟩
theorem k6a {sm : Stmt} (hf : SEm f) (h : PS X sm (tRet (RE X.K f))) : PS X sm (RS X.K n fun L cs k => f L cs fun d cs1 => k.rt d cs1) :=
  h.imp fun D σ H ⟨p,L,cs,k,R,hl,en,q⟩ => ⟨p,L,cs,R,hf _ _ _ _ (fun d cs1 w v p1 H1 R1 x1 r1 => en.rt d cs1 v p1 H1 w R1.ok R1.cells x1.ext r1) q⟩
theorem k7a {sm : Stmt} (h : PS X sm tRetN) : PS X sm (RS X.K n fun _ cs k => k.rt .non cs) :=
  h.imp fun D σ H ⟨p,L,cs,k,R,hl,en,q⟩ => en.rt .non cs .non p H q R.ok R.cells .refl .non
theorem kXa {sm : Stmt} (h : PS X sm tNext) : PS X sm (RS X.K n fun L cs k => k.nx L cs) :=
  h.imp fun D σ H ⟨p,L,cs,k,R,hl,en,q⟩ => en.nx L cs p σ H q R hl .refl
theorem kPa {sm : Stmt} (h : PS X sm tBreak) : PS X sm (RS X.K n fun L cs k => k.bk L cs) :=
  h.imp fun D σ H ⟨p,L,cs,k,R,hl,en,q⟩ => en.bk L cs p σ H q R hl .refl
theorem kQa {sm : Stmt} (h : PS X sm tCont) : PS X sm (RS X.K n fun L cs k => k.ct L cs) :=
  h.imp fun D σ H ⟨p,L,cs,k,R,hl,en,q⟩ => en.ct L cs p σ H q R hl .refl
theorem kUa {sm : Stmt} {F F1 : SW} {tt : ST} {t1 t2 : TS} (ht : STm tt) (h : PS X sm (tIfS (RB X.K tt) (RS X.K n F) (RS X.K n F1))) : PS X sm (RS X.K n fun L cs k => tt L cs fun c cs1 => match c with
    | true => F L cs1 k
    | false => F1 L cs1 k) :=
  h.imp fun D σ H ⟨p,L,cs,k,R,hl,en,q⟩ => ⟨p,L,cs,R,ht _ _ _ _ (fun t cs1 w p1 H1 R1 x1 => by
    cases t with
    | true => exact (if_pos rfl).mpr ⟨p1,L,cs1,k,R1,hl,en.mv x1.ext,w⟩
    | false => exact (if_neg (by decide)).mpr ⟨p1,L,cs1,k,R1,hl,en.mv x1.ext,w⟩) q⟩
theorem lCa {sm : Stmt} {F : SW} {tt : ST} (ht : STm tt) (h : PS X sm (tWhile (RB X.K tt) (RS X.K n F))) : PS X sm (RS X.K n fun L cs k => ∃ W : Nat -> Loc -> Cells -> Prop,(∃ m,W m L cs) /\ ∀ m L cs,W m L cs ->
      tt L cs fun c cs1 => match c with
        | true => F L cs1 { nx := fun L2 cs2 => ∃ m',m' < m /\ W m' L2 cs2,rt := k.rt,bk := k.nx,ct := fun L2 cs2 => ∃ m',m' < m /\ W m' L2 cs2 }
        | false => k.nx L cs1) :=
  h.imp fun D σ H ⟨p,L,cs,k,R,hl,en,W,⟨m0,w0⟩,st⟩ => by
    refine ⟨fun m σ' H' => ∃ p' L' cs',Rl X.K p' σ' H' L' cs' /\ L'.length = n /\ Ext p p' H H' /\ W m L' cs',⟨m0,p,L,cs,R,hl,.refl,w0⟩,?_⟩
    rintro m σ' H' ⟨p',L',cs',R',hl',x',w⟩
    refine ⟨p',L',cs',R',ht _ _ _ _ (fun t cs1 q p1 H1 R1 x1 => ?_) (st m L' cs' w)⟩
    cases t with
    | false => exact (if_neg (by decide)).mpr (en.nx L' cs1 p1 σ' H1 q R1 hl' (x'.trans x1.ext))
    | true =>
      have again : ∀ L2 cs2 p2 σ2 H2,(∃ m',m' < m /\ W m' L2 cs2) -> Rl X.K p2 σ2 H2 L2 cs2 -> L2.length = n -> Ext p1 p2 H1 H2 -> ∃ m',m' < m /\ ∃ p' L' cs',Rl X.K p' σ2 H2 L' cs' /\ L'.length = n /\ Ext p p' H H2 /\ W m' L' cs' :=
        fun L2 cs2 p2 σ2 H2 ⟨m',hm,w2⟩ R2 hl2 x2 => ⟨m',hm,p2,L2,cs2,R2,hl2,(x'.trans x1.ext).trans x2,w2⟩
      refine (if_pos rfl).mpr ⟨fun σ2 H2 => ∃ m',m' < m /\ ∃ p' L' cs',Rl X.K p' σ2 H2 L' cs' /\ L'.length = n /\ Ext p p' H H2 /\ W m' L' cs',fun _ _ z => z,p1,L',cs1,{ nx := fun L2 cs2 => ∃ m',m' < m /\ W m' L2 cs2,rt := k.rt,bk := k.nx,ct := fun L2 cs2 => ∃ m',m' < m /\ W m' L2 cs2 },R1,hl',⟨again,fun d cs v p2 H2 q o c y r => en.rt d cs v p2 H2 q o c ((x'.trans x1.ext).trans y) r,fun L2 cs2 p2 σ2 H2 q R2 hl2 x2 => en.nx L2 cs2 p2 σ2 H2 q R2 hl2 ((x'.trans x1.ext).trans x2),again⟩,q⟩
theorem kSa {sm : Stmt} {F : SW} {I : SI} {gt : Tg} (hI : SIm I) (hst : ∀ L cs Q,I L cs Q -> I L cs fun xs st cs1 => st L cs1 /\ Q xs st cs1) (hs : ∀ i ∈ tgSlots gt,i < n) (h : PS X sm (tFor (RI X.K false I) (gTg X.K gt) (RS X.K n F))) :
    PS X sm (RS X.K n fun L cs k => I L cs fun xs st cs1 => forW gt F st k xs L cs1) :=
  h.imp fun D σ H ⟨p,L,cs,k,R,hl,en,q⟩ => by
    refine ⟨p,L,cs,R,hI _ _ _ _ (fun xs st cs1 ⟨hst1,q⟩ J p1 H1 R1 x1 wk => ?_) (hst _ _ _ q)⟩
    let P : Nat -> L2.St -> Hp -> Prop := fun i σ' H' => ∃ p' L' cs',Rl X.K p' σ' H' L' cs' /\ L'.length = n /\ Ext p1 p' H1 H' /\ st L' cs' /\ forW gt F st k (xs.drop i) L' cs'
    refine ⟨fun i m σ' H' => m = xs.length - i /\ i <= xs.length /\ P i σ' H',⟨xs.length,rfl,Nat.zero_le _,p1,L,cs1,R1,hl,.refl,hst1,q⟩,?_⟩
    rintro i m σ' H' ⟨rfl,hi,p',L',cs',R',hl',x',hs',q⟩
    have wki := wk i p' σ' H' L' cs' R' x'.mv (fun z => nomatch z) hs'
    by_cases hlt : i < xs.length
    · have hx : xs[i]? = some xs[i] := List.getElem?_eq_getElem hlt
      obtain ⟨go,yl⟩ := wki.2 _ hx
      rw [List.drop_eq_getElem_cons hlt] at q
      refine .inr ⟨go,P (i + 1),fun σ2 H2 hn => ⟨xs.length - (i + 1),by omega,rfl,hlt,hn⟩,fun v H'' hy => ?_⟩
      obtain ⟨R2,x2,r2⟩ := yl v H'' hy
      unfold forW at q
      refine cI gt (fun σ3 H3 z => ?_) (dC gt p' σ' L' v xs[i] _ R2 r2 (fun j hj => by rw [hl']; exact hs j hj) q)
      obtain ⟨eH,p3,L1,q,hL1,R3,x3,_⟩ := z
      have eH : H'' = H3 := eH.symm
      subst eH
      have xx : Ext p1 p3 H1 H'' := (x'.trans x2.ext).trans x3
      have again : ∀ L2 cs2 p2 σ2 H2,(st L2 cs2 /\ forW gt F st k (xs.drop (i + 1)) L2 cs2) -> Rl X.K p2 σ2 H2 L2 cs2 -> L2.length = n -> Ext p3 p2 H'' H2 -> P (i + 1) σ2 H2 :=
        fun L2 cs2 p2 σ2 H2 ⟨s2,w2⟩ R2 hl2 x2 => ⟨p2,L2,cs2,R2,hl2,xx.trans x2,s2,w2⟩
      exact ⟨p3,L1,cs',{ nx := fun L2 cs2 => st L2 cs2 /\ forW gt F st k (xs.drop (i + 1)) L2 cs2,rt := k.rt,bk := k.nx,ct := fun L2 cs2 => st L2 cs2 /\ forW gt F st k (xs.drop (i + 1)) L2 cs2 },R3,hL1.trans hl',⟨again,fun d cs v p2 H2 q o c y r => en.rt d cs v p2 H2 q o c ((x1.ext.trans xx).trans y) r,fun L2 cs2 p2 σ2 H2 q R2 hl2 x2 => en.nx L2 cs2 p2 σ2 H2 q R2 hl2 ((x1.ext.trans xx).trans x2),again⟩,q⟩
    · have hi' : i = xs.length := by omega
      rw [List.drop_eq_nil_of_le (by omega)] at q
      exact .inl ⟨wki.1 hi',en.nx L' cs' p' σ' H' q R' hl' (x1.ext.trans x')⟩
theorem k8a {st : Stmt} {sts : List Stmt} {F F1 : SW} (hF : SSm F) (h1 : PS X st (RS X.K n F)) (h2 : PSs X sts (RS X.K n F1)) : PSs X (st :: sts) (RS X.K n fun L cs k => F L cs { nx := fun L1 cs1 => F1 L1 cs1 k,rt := k.rt,bk := k.bk,ct := k.ct }) :=
  (pss_cons h1 h2).imp fun D σ H ⟨p,L,cs,k,R,hl,en,q⟩ => ⟨p,L,cs,{ nx := fun L1 cs1 => F1 L1 cs1 k,rt := k.rt,bk := k.bk,ct := k.ct },R,hl,⟨fun L1 cs1 p1 σ1 H1 q R1 hl1 x1 => ⟨p1,L1,cs1,k,R1,hl1,en.mv x1,q⟩,en.rt,en.bk,en.ct⟩,q⟩
theorem kYa : PSs X [] (RS X.K n fun L cs k => k.nx L cs) := pss_nil.imp fun D σ H ⟨p,L,cs,k,R,hl,en,q⟩ => en.nx L cs p σ H q R hl .refl
theorem kOa {i : Nat} {v : Expr} {sm : Stmt} (hf : SEm f) (hi : i < n) (h : PS X sm (tAug i (RE X.K f) (ipI fun i j => i + j))) : PS X sm (RS X.K n fun L cs k => match L[i]? with
    | some (.val (.int x)) => f L cs fun d cs1 => match d with
      | .int y => k.nx (L.set i (.val (.int (x + y)))) cs1
      | _ => False
    | _ => False) :=
  h.imp fun D σ H ⟨p,L,cs,k,R,hl,en,q⟩ => by
    simp only [] at q
    split at q
    · rename_i z eL
      obtain ⟨w,ew,rw'⟩ := R.slot i _ eL
      cases rw'
      refine ⟨_,ew,p,L,cs,R,hf _ _ _ _ (fun d cs1 q v p1 H1 R1 x1 r1 => ?_) q⟩
      cases d with
      | int j =>
        cases r1
        exact ⟨z,j,rfl,rfl,en.nx _ cs1 _ _ H1 q (R1.store (by rw [hl]; exact hi) (.int _)) (by rw [List.length_set]; exact hl) (x1.ext.trans aV)⟩
      | _ => exact q.elim
    · exact q.elim
theorem kVa (hu : X.A.units + 64 < cLine) {o e : Expr} {es : List Expr} {F : Loc -> Cells -> (List D -> Cells -> Prop) -> Prop} {apos cpos : Pos} {name : Str} {sm : Stmt} (m : LM) (hf : SEm f) (hF : SLm F) (hn : name = (m.nm : Str)) (ho : PE X o (RO X.K a f)) (ha : PA X (e :: es) (RAs X.K F)) (hb : baseB o = true) (hl : (apos.endLine == cpos.line) = true) (hs : (e :: es).all (fun e => !starred e) = true) (hfw : fewB (e :: es) = true)
    (hsm : ∀ te,PE X (.Call (.Attribute o name apos) (e :: es) [] cpos) te -> PS X sm (tDrop te)) : PS X sm (RS X.K n fun L cs k => plc a f L cs fun p cs1 => lsAt p L cs1 /\ F L cs1 fun ds cs2 => chg p L cs2 (fun xs => lmV m xs ds) k.nx) :=
  (hsm _ (nO hu m hn ho ha hb hl hs hfw)).imp fun D σ H ⟨p,L,cs,k,R,hl,en,q⟩ => ⟨p,L,cs,R,aB hf (fun u cs1 ⟨pl,hpl,hls,w⟩ v p1 H1 R1 x1 r1 => by
    have rp := hpl _ _ _ _ r1
    obtain ⟨a,vs,ev,hv⟩ := m5 R1 rp hls
    refine ⟨by rw [ev]; exact eJ hv,p1,L,cs1,R1,hF _ _ _ _ (fun ds cs2 w ws p2 H2 R2 x2 r2 => ?_) w⟩
    obtain ⟨a,vs,ys,ev,hv,rs,w⟩ := kX R2 (rp.mv x2) w
    refine ⟨p2,a,vs,ys,ds,ev,hv,rs,r2,aC (fun z w ws' y rw' ry => ?_) w⟩
    obtain ⟨L',cs',q,hl',R3,x3⟩ := w ws' rw'
    exact en.nx L' cs' p2 σ _ q R3 (hl'.trans hl) ((x1.ext.trans x2.ext).trans x3)) (jR hf q)⟩
theorem kWa (hu : X.A.units + 64 < cLine) {o : Expr} {apos cpos : Pos} {name : Str} {sm : Stmt} (m : LM) (hf : SEm f) (hn : name = (m.nm : Str)) (ho : PE X o (RO X.K a f)) (hb : baseB o = true) (hl : (apos.endLine == cpos.line) = true)
    (hsm : ∀ te,PE X (.Call (.Attribute o name apos) [] [] cpos) te -> PS X sm (tDrop te)) : PS X sm (RS X.K n fun L cs k => plc a f L cs fun p cs1 => lsAt p L cs1 /\ chg p L cs1 (fun xs => lmV m xs []) k.nx) :=
  (hsm _ (jN hu m hn ho hb hl)).imp fun D σ H ⟨p,L,cs,k,R,hl,en,q⟩ => ⟨p,L,cs,R,aB hf (fun u cs1 ⟨pl,hpl,hls,w⟩ v p1 H1 R1 x1 r1 => by
    have rp := hpl _ _ _ _ r1
    obtain ⟨a,vs,ev,hv⟩ := m5 R1 rp hls
    refine ⟨by rw [ev]; exact eJ hv,?_⟩
    obtain ⟨a,vs,ys,ev,hv,rs,w⟩ := kX R1 rp w
    refine ⟨p1,a,vs,ys,[],ev,hv,rs,.nil,aC (fun z w ws' y rw' ry => ?_) w⟩
    obtain ⟨L',cs',q,hl',R3,x3⟩ := w ws' rw'
    exact en.nx L' cs' p1 σ _ q R3 (hl'.trans hl) (x1.ext.trans x3)) (jR hf q)⟩
theorem k5a (hu : X.A.units + 64 < cLine) {o : Expr} {apos cpos : Pos} {name : Str} {sm : Stmt} {j : Nat} (hf : SEm f) (hn : name = ("pop" : Str)) (ho : PE X o (RO X.K a f)) (hb : baseB o = true) (hl : (apos.endLine == cpos.line) = true) (hj : j < n)
    (hsm : ∀ te,PE X (.Call (.Attribute o name apos) [] [] cpos) te -> PS X sm (tAsg te (gName j))) : PS X sm (RS X.K n fun L cs k => opd a f L cs fun u cs1 => match u with
    | .o i (.lst xs) => match xs[xs.length - 1]? with
      | some y => k.nx ((L.set i (.own (.lst xs.dropLast))).set j (.val y)) cs1
      | none => False
    | _ => False) :=
  (hsm _ (jN hu .pop hn ho hb hl)).imp fun D σ H ⟨p,L,cs,k,R,hl,en,q⟩ => ⟨p,L,cs,R,aB hf (fun u cs1 w v p1 H1 R1 x1 r1 => by
    cases u with
    | v d => exact w.elim
    | o i d =>
      cases d with
      | lst xs =>
        obtain ⟨b,rfl,hown,hL⟩ := r1
        obtain ⟨c,hc,_,vs,hv,rv⟩ := R1.slot i _ hL
        have hc : p1.own i = some c := hc
        rw [hown] at hc
        cases hc
        refine ⟨eJ hv,p1,b,vs,xs,[],rfl,hv,rv,.nil,?_⟩
        show ok (match xs[xs.length - 1]? with
          | some y => yes (xs.dropLast,y)
          | none => none) _
        simp only at w
        cases e : xs[xs.length - 1]? with
        | none => rw [e] at w; exact w.elim
        | some y0 =>
          rw [e] at w
          refine ⟨trivial,fun ws y rw' ry => ?_⟩
          obtain ⟨R2,x2⟩ := R1.setOwn hown hL rw'
          have hl2 : (L.set i (.own (.lst xs.dropLast))).length = n := by rw [List.length_set]; exact hl
          obtain ⟨eH,p3,L1,q,hL1,R3,x3,_⟩ := dC (.nm j) p1 _ _ y y0 (fun L2 => k.nx L2 cs1) R2 (ry.mv x2.mv) (fun i hi => by
            have : i = j := by simpa [tgSlots] using hi
            rw [this,hl2]
            exact hj) w
          exact en.nx L1 cs1 p3 _ _ q R3 (hL1.trans hl2) ((x1.ext.trans x2).trans x3)
      | _ => exact w.elim) q⟩
def rSetB : TSet := fun o i v H Q => rSetL o i v H Q \/ rSetD o i v H Q
theorem jZ {X : Cx} (hu : X.A.units + 64 < cLine) : PSet X rSetB := fun pins s σ H o i v ov iv u Q I ro ri rv h =>
  h.elim (set_list pins s σ H o i v ov iv u Q I ro ri rv) (set_dict (by omega) pins s σ H o i v ov iv u Q I ro ri rv)
theorem j6 {o i : Expr} {p : Pm} {σ : L2.St} {H : Hp} {L : Loc} {cs : Cells} {v : V} {d : Sp.D} {W : Loc -> Cells -> Prop} {Z : L2.St -> Hp -> Prop} (hf : SEm f) (hg : SEm g) (R : Rl X.K p σ H L cs) (hl : L.length = n) (rv0 : Rep X.K p H v d)
    (q : plc a f L cs fun p cs2 => g L cs2 fun j cs3 => sto p L cs3 (fun c => stoV c j d) W) (nx : ∀ L' cs' p' H',W L' cs' -> L'.length = n -> Rl X.K p' σ H' L' cs' -> Ext p p' H H' -> Z σ H') :
    gSub (RO X.K a f) (RE X.K g) rSetB v σ H Z :=
  ⟨p,L,cs,R,aB hf (fun u cs2 ⟨pl,hpl,w⟩ v2 p2 H2 R2 x2 r2 => ⟨p2,L,cs2,R2,hg _ _ _ _ (fun j cs3 w v3 p3 H3 R3 x3 r3 => by
    have rp := (hpl _ _ _ _ r2).mv x3
    obtain ⟨a,c,ev,hC,w⟩ := lWa R3 rp w
    have rv := (rv0.mv x2.ext.mv).mv x3.ext.mv
    have fin : ∀ {o : HO} {z : Sp.D},(∀ vs,o ≠ .tup vs) -> (Mv p3 p3 H3 (upd H3 a o) -> Con X.K p3 (upd H3 a o) a z) -> (∀ o : HO,(∀ vs,o ≠ .tup vs) -> (Mv p3 p3 H3 (upd H3 a o) -> Con X.K p3 (upd H3 a o) a z) -> ∃ L' cs',W L' cs' /\ L'.length = L.length /\ Rl X.K p3 σ (upd H3 a o) L' cs' /\ Ext p3 p3 H3 (upd H3 a o)) -> Z σ (upd H3 a o) := fun h1 h2 w => by
      obtain ⟨L',cs',q,hl',R4,x4⟩ := w _ h1 h2
      exact nx L' cs' p3 _ q (hl'.trans hl) R4 (x2.ext.trans (x3.ext.trans x4))
    cases c with
    | lst ys =>
      obtain ⟨vs,hv,rs⟩ := hC
      cases j with
      | int i =>
        have w : ok (match L2.ixN ys.length i with
          | some j => yes (Sp.D.lst (ys.set j d))
          | none => none) _ := w
        cases r3
        cases e : L2.ixN ys.length i with
        | none => rw [e] at w; exact w.elim
        | some j =>
          rw [e] at w
          exact .inl ⟨a,vs,i,j,ev,rfl,hv,by rw [rs.len]; exact e,fin (o := .lst (vs.set j v)) (z := .lst (ys.set j d)) (fun _ e => nomatch e) (fun m => ⟨_,upd_same,(rs.set rv j).mv m⟩) w.2⟩
      | _ => exact w.elim
    | dct ys =>
      obtain ⟨vs,hv,rs⟩ := hC
      have w : ok (match keyK j with
        | some k => some (ys.length < sizeLine,Sp.D.dct (dPut ys k d))
        | none => none) _ := w
      cases e : keyK j with
      | none => rw [e] at w; exact w.elim
      | some kk =>
        rw [e] at w
        exact .inr ⟨a,_,ev,.inl ⟨vs,kk,hv,dP e r3,by rw [rs.x.len]; exact w.1,rfl⟩,fin (o := .dK (putK vs kk v)) (z := .dct (dPut ys kk d)) (fun _ e => nomatch e) (fun m => ⟨_,upd_same,((rs.x.put kk rv).k).mv m⟩) w.2⟩
    | dctT ys =>
      obtain ⟨vs,hv,rs⟩ := hC
      have w : ok (match keyT j with
        | some k => some (ys.length < sizeLine,Sp.D.dctT (dPut ys k d))
        | none => none) _ := w
      cases e : keyT j with
      | none => rw [e] at w; exact w.elim
      | some kk =>
        rw [e] at w
        obtain ⟨b,eb,hb⟩ := jC e r3
        exact .inr ⟨a,_,ev,.inr ⟨vs,kk,b,hv,eb,hb,by rw [rs.x.len]; exact w.1,rfl⟩,fin (o := .dT (putK vs kk v)) (z := .dctT (dPut ys kk d)) (fun _ e => nomatch e) (fun m => ⟨_,upd_same,((rs.x.put kk rv).t).mv m⟩) w.2⟩
    | _ => exact hC.elim) w⟩) (jR hf q)⟩
theorem lAa {o i : Expr} {sm : Stmt} (hf : SEm f) (hg : SEm g) (hh : SEm h) (hsm : PS X sm (tAsg (RE X.K h) (gSub (RO X.K a f) (RE X.K g) rSetB))) : PS X sm (RS X.K n fun L cs k => h L cs fun d cs1 => plc a f L cs1 fun p cs2 => g L cs2 fun j cs3 => sto p L cs3 (fun c => stoV c j d) k.nx) :=
  hsm.imp fun D σ H ⟨p,L,cs,k,R,hl,en,q⟩ => ⟨p,L,cs,R,hh _ _ _ _ (fun d cs1 w v p1 H1 R1 x1 r1 => j6 (o := o) (i := i) hf hg R1 hl r1 w fun L' cs' p' H' q hl' R' x' => en.nx L' cs' p' σ H' q R' hl' (x1.ext.trans x')) q⟩
theorem k9a {o e : Expr} {c fl : Str} {C : Addr} {p2 pos : Pos} (hf : SEm f) (hg : SEm g) (hC : CAt X.K c C) (hn : NoAttr X.K C fl) (ho : PE X o (RE X.K g)) (he : PE X e (RE X.K f)) :
    PS X (.Assign [.Attribute o fl p2] e pos) (RS X.K n fun L cs k => f L cs fun d cs1 => g L cs1 fun x cs2 => match x with
      | .ref m => match cs2[m]? with
        | some (.inst c' fs) => c' = c /\ fs.length < 1000 /\ k.nx L (cs2.set m (.inst c (putFd fl d fs)))
        | _ => False
      | _ => False) :=
  (ps_fld ho he (lZa _ _)).imp fun D σ H ⟨p,L,cs,k,R,hl,en,q⟩ => ⟨p,L,cs,R,hf _ _ _ _ (fun d cs1 w v p1 H1 R1 x1 r1 => ⟨p1,L,cs1,R1,hg _ _ _ _ (fun y cs2 w u p2 H2 R2 x2 r2 => by
    cases y with
    | ref m =>
      simp only [] at w
      split at w
      · rename_i c' fs e1
        obtain ⟨ec,hlen,w⟩ := w
        subst ec
        cases r2 with
        | ref hc =>
          obtain ⟨C',dx,vs,h1,h2,h3,h4⟩ := gN R2 hc e1
          obtain rfl := h2.uniq hC
          have hl2 : vs.length = fs.length := by
            have := congrArg List.length h3
            rwa [List.length_map,List.length_map] at this
          refine ⟨_,C',dx,vs,rfl,h1,hC.cls,hn,by rw [hl2]; exact hlen,?_⟩
          obtain ⟨e3,r3⟩ := nP (f := fl) (r1.mv x2.ext.mv) h3 h4
          obtain ⟨R3,x3⟩ := R2.setCellG (o := .ins C' dx (putF fl v vs)) (c' := .inst c' (putFd fl d fs)) hc (fun _ e => nomatch e) fun m => ⟨C',dx,_,upd_same,hC,e3,r3.mv m⟩
          exact en.nx L _ p2 σ _ w R3 hl ((x1.ext.trans x2.ext).trans x3.ext)
      · exact w.elim
    | _ => exact w.elim) w⟩) q⟩
theorem lBa {o i o2 i2 : Expr} {sm : Stmt} {b : CE} {f2 g2 h2 : SE} (hf : SEm f) (hg : SEm g) (hf2 : SEm f2) (hg2 : SEm g2) (hh : SEm h) (hh2 : SEm h2) (hsm : PS X sm (tAsg (RE X.K fun L cs Q => h L cs fun d cs1 => h2 L cs1 fun e cs2 => Q (.tup [d,e]) cs2) (gTup X.K 2 (gCons (gSub (RO X.K a f) (RE X.K g) rSetB) (gCons (gSub (RO X.K b f2) (RE X.K g2) rSetB) gNil))))) :
    PS X sm (RS X.K n fun L cs k => h L cs fun d cs1 => h2 L cs1 fun e cs2 => plc a f L cs2 fun p cs3 => g L cs3 fun j cs4 => sto p L cs4 (fun c => stoV c j d) fun L5 cs5 =>
      plc b f2 L5 cs5 fun p2 cs6 => g2 L5 cs6 fun j2 cs7 => sto p2 L5 cs7 (fun c => stoV c j2 e) k.nx) :=
  hsm.imp fun D σ H ⟨p,L,cs,k,R,hl,en,q⟩ => ⟨p,L,cs,R,hh _ _ _ _ (fun d cs1 w => hh2 _ _ _ _ (fun e cs2 w v p1 H1 R1 x1 rv => by
    cases rv with
    | tup ha1 _ rs =>
    cases rs with
    | cons r1 rs =>
    cases rs with
    | cons r2 rs =>
    cases rs
    exact ⟨_,_,rfl,.inl (.inl ha1),rfl,_,_,rfl,j6 (o := o) (i := i) hf hg R1 hl r1 w fun L' cs' p' H' w hl' R' x' =>
      ⟨_,_,rfl,j6 (o := o2) (i := i2) hf2 hg2 R' hl' (r2.mv x'.mv) w fun L2 cs2 p2 H2 q hl2 R2 y => ⟨rfl,en.nx L2 cs2 p2 σ H2 q R2 hl2 ((x1.ext.trans x').trans y)⟩⟩⟩) w) q⟩
theorem k0a {sm : Stmt} {i j : Nat} (hf : SEm f) (hg : SEm g) (hi : i < n) (hj : j < n) (hsm : PS X sm (tPar i j (tCons (RE X.K f) (tCons (RE X.K g) tNil)))) : PS X sm (RS X.K n fun L cs k => f L cs fun d cs1 => g L cs1 fun e cs2 => k.nx ((L.set i (.val d)).set j (.val e)) cs2) :=
  hsm.imp fun D σ H ⟨p,L,cs,k,R,hl,en,q⟩ => ⟨p,L,cs,R,hf _ _ _ _ (fun d cs1 w v p1 H1 R1 x1 r1 => ⟨p1,L,cs1,R1,hg _ _ _ _ (fun e cs2 w v2 p2 H2 R2 x2 r2 => by
    have S1 := R2.store (by rw [hl]; exact hi) (r1.mv x2.ext.mv)
    have S2 := S1.store (i := j) (by rw [List.length_set,hl]; exact hj) (r2.mv Mv.drop)
    exact ⟨v,v2,rfl,en.nx _ cs2 _ _ H2 w S2 (by rw [List.length_set,List.length_set]; exact hl) (((x1.ext.trans x2.ext).trans aV).trans aV)⟩) w⟩) q⟩
theorem Mv.give_ {K : PySem.W.Frag} {p : Pm} {H : Hp} {i : Nat} {a : Addr} : Mv (p.with a) (p.give i a) H H := by
  refine ⟨fun b u e n => ⟨e,fun q => n ?_⟩,fun _ _ e => e⟩
  rcases q with q | ⟨j,q⟩ | q
  · exact .inl q
  · have q : (if j = i then some a else p.own j) = some b := q
    split at q
    · cases q
      exact .inr (.inr (.inl rfl))
    · exact .inr (.inl ⟨j,q⟩)
  · exact .inr (.inr (.inr q))
theorem pEa (p : Pm) (a b : Addr) : (p.with a).with b = (p.with b).with a := by
  show (⟨_,_,_⟩ : Pm) = ⟨_,_,_⟩
  congr 1
  funext x
  exact propext ⟨fun h => h.elim (fun h => .inr (.inl h)) fun h => h.elim .inl fun h => .inr (.inr h),fun h => h.elim (fun h => .inr (.inl h)) fun h => h.elim .inl fun h => .inr (.inr h)⟩
theorem k3a {sm : Stmt} {i j : Nat} (hf : SEm f) (hg : SEm g) (hi : i < n) (hj : j < n) (hsm : PS X sm (tPar i j (tCons (RF X.K f) (tCons (RF X.K g) tNil)))) : PS X sm (RS X.K n fun L cs k => f L cs fun d cs1 => isOwn d = true /\ g L cs1 fun e cs2 => isOwn e = true /\ k.nx ((L.set i (.own d)).set j (.own e)) cs2) :=
  hsm.imp fun D σ H ⟨p,L,cs,k,R,hl,en,q⟩ => ⟨p,L,cs,R,hf _ _ _ _ (fun d cs1 w => ⟨w.1,fun a p1 H1 R1 x1 hn hM hC => ⟨p1.with a,L,cs1,R1,hg _ _ _ _ (fun e cs2 w2 => ⟨w2.1,fun b p2 H2 R2 x2 hn2 hM2 hC2 => by
    have ha1 := hC.some
    obtain ⟨o,ho⟩ := Option.ne_none_iff_exists'.mp ha1
    have ha2 : H2 a = H1 a := (x2.at R1 ho).trans ho.symm
    have m0 := x2.ext.mv
    obtain ⟨p3,rfl,x3⟩ := x2.strip
    have nab : b ≠ a := fun e => ha1 (by rw [<- e]; exact hn2)
    have m1 : Mv (p1.with a) ((p3.with a).with b) H1 H2 := ⟨fun x u e n => by
      obtain ⟨q1,q2⟩ := m0.at_ x u e n
      refine ⟨q1,fun z => ?_⟩
      rcases z with z | z | z | z
      · exact q2 (.inl z)
      · exact q2 (.inr (.inl z))
      · rw [z,hn2] at e
        cases e
      · exact q2 (.inr (.inr z)),m0.cl⟩
    have c1 := hC.mv m1 ha2
    rw [pEa] at R2 hC2 c1
    have nM : ¬ (p3.with b).M a := fun z => by
      rcases z with z | ⟨k,z⟩ | z | z
      · obtain ⟨more,e,hm⟩ := x3.ext.cell
        rw [e] at z
        rcases List.mem_append.mp z with z | z
        · exact hM (.inl z)
        · exact ha1 (hm a z)
      · have z : p3.own k = some a := z
        rw [x3.own] at z
        exact hM (.inr (.inl ⟨k,z⟩))
      · exact nab z.symm
      · have z : p3.rsv a := z
        rw [x3.ext.rsv] at z
        exact hM (.inr (.inr z))
    have S1 := R2.give (i := i) (by rw [hl]; exact hi) nM c1
    have nM2 : ¬ (p3.give i a).M b := fun z => by
      rcases z with z | ⟨k,z⟩ | z
      · exact hM2 (.inl z)
      · have z : (if k = i then some a else p3.own k) = some b := z
        split at z
        · cases z
          exact nab rfl
        · exact hM2 (.inr (.inl ⟨k,z⟩))
      · exact hM2 (.inr (.inr (.inr z)))
    have S2 := Rl.give (p := p3.give i a) (i := j) (d := e) S1 (by rw [List.length_set,hl]; exact hj) nM2 (hC2.mv (Mv.give_ (K := X.K) (p := p3.with b)) rfl)
    have hbn : H b = none := Classical.byContradiction fun z => x1.ext.dom b z hn2
    exact ⟨_,_,rfl,en.nx _ cs2 _ _ H2 w2.2 S2 (by rw [List.length_set,List.length_set]; exact hl) (dJ hbn (dJ hn (x1.ext.trans x3.ext)))⟩⟩) w.2⟩⟩) q⟩
theorem k4a {sm : Stmt} {i j : Nat} (hf : SEm f) (hg : SEm g) (hi : i < n) (hj : j < n) (hij : i ≠ j) (hsm : PS X sm (tPar i j (tCons (RE X.K f) (tCons (RF X.K g) tNil)))) : PS X sm (RS X.K n fun L cs k => f L cs fun d cs1 => g L cs1 fun e cs2 => isOwn e = true /\ k.nx ((L.set i (.val d)).set j (.own e)) cs2) :=
  hsm.imp fun D σ H ⟨p,L,cs,k,R,hl,en,q⟩ => ⟨p,L,cs,R,hf _ _ _ _ (fun d cs1 w v p1 H1 R1 x1 r1 => ⟨p1,L,cs1,R1,hg _ _ _ _ (fun e cs2 w2 => ⟨w2.1,fun a p2 H2 R2 x2 hn hM hC => by
    have m0 := x2.ext.mv
    have m1 : Mv p1 (p2.give j a) H1 H2 := ⟨fun x u ex nx => by
      obtain ⟨q1,q2⟩ := m0.at_ x u ex nx
      refine ⟨q1,fun z => ?_⟩
      rcases z with z | ⟨k,z⟩ | z
      · exact q2 (.inl z)
      · have z : (if k = j then some a else p2.own k) = some x := z
        split at z
        · cases z
          rw [hn] at ex
          cases ex
        · exact q2 (.inr (.inl ⟨k,z⟩))
      · exact q2 (.inr (.inr z)),m0.cl⟩
    have S1 := R2.give (i := j) (by rw [hl]; exact hj) hM hC
    have S2 := S1.store (i := i) (by rw [List.length_set,hl]; exact hi) (r1.mv m1)
    have hbn : H a = none := Classical.byContradiction fun z => x1.ext.dom a z hn
    rw [List.set_comm _ _ (Ne.symm hij),List.set_comm _ _ (Ne.symm hij)] at S2
    exact ⟨_,_,rfl,en.nx _ cs2 _ _ H2 w2.2 S2 (by rw [List.length_set,List.length_set]; exact hl) ((dJ hbn (x1.ext.trans x2.ext)).trans aV)⟩⟩) w⟩) q⟩
theorem k2a {sm : Stmt} {i j : Nat} (hf : SEm f) (hg : SEm g) (hi : i < n) (hj : j < n) (hij : i ≠ j) (hsm : PS X sm (tAsg (tTup (tCons (RE X.K f) (tCons (RF X.K g) tNil))) (gTg X.K (.tp (.cons (.nm i) (.cons (.nm j) .nil)))))) : PS X sm (RS X.K n fun L cs k => f L cs fun d cs1 => g L cs1 fun e cs2 => isOwn e = true /\ k.nx ((L.set i (.val d)).set j (.own e)) cs2) :=
  hsm.imp fun D σ H ⟨p,L,cs,k,R,hl,en,q⟩ => ⟨p,L,cs,R,hf _ _ _ _ (fun d cs1 w v p1 H1 R1 x1 r1 => ⟨p1,L,cs1,R1,hg _ _ _ _ (fun e cs2 w2 => ⟨w2.1,fun a p2 H2 R2 x2 hn hM hC => ⟨by rw [sizeLine_eq]; exact (by decide : 2 <= 16777216),fun t ht => by
    have st : ∀ b,H2 b ≠ none -> (upd H2 t (.tup [v,.ref a])) b = H2 b := fun b hb => upd_ne (fun z => hb (z ▸ ht))
    have m2 : ∀ p3 : Pm,Mv p3 p3 H2 (upd H2 t (.tup [v,.ref a])) := fun p3 => ⟨fun b u ex nx => ⟨(st b (by rw [ex]; exact Option.some_ne_none u)).trans ex,nx⟩,fun _ _ ex => ex⟩
    have x4 : Ext p2 p2 H2 (upd H2 t (.tup [v,.ref a])) := ⟨⟨[],by simp,by simp⟩,fun b u ex _ _ => (st b (by rw [ex]; exact Option.some_ne_none u)).trans ex,fun i b ex => .inl ⟨i,ex⟩,rfl,fun b hb => by rw [st b hb]; exact hb⟩
    obtain ⟨R3,_⟩ := R2.new (o := .tup [v,.ref a]) ht
    have hC3 := hC.mv (m2 (p2.with a)) (st a hC.some)
    have m0 := x2.ext.mv
    have m1 : Mv p1 (p2.give j a) H1 (upd H2 t (.tup [v,.ref a])) := ⟨fun x u ex nx => by
      obtain ⟨q1,q2⟩ := m0.at_ x u ex nx
      refine ⟨(st x (by rw [q1]; exact Option.some_ne_none u)).trans q1,fun z => ?_⟩
      rcases z with z | ⟨k,z⟩ | z
      · exact q2 (.inl z)
      · have z : (if k = j then some a else p2.own k) = some x := z
        split at z
        · cases z
          rw [hn] at ex
          cases ex
        · exact q2 (.inr (.inl ⟨k,z⟩))
      · exact q2 (.inr (.inr z)),m0.cl⟩
    have S1 := R3.give (i := j) (by rw [hl]; exact hj) hM hC3
    have S2 := S1.store (i := i) (by rw [List.length_set,hl]; exact hi) (r1.mv m1)
    have hbn : H a = none := Classical.byContradiction fun z => x1.ext.dom a z hn
    rw [List.set_comm _ _ (Ne.symm hij),List.set_comm _ _ (Ne.symm hij)] at S2
    refine .inl ⟨t,[v,.ref a],rfl,.inl (.inl upd_same),rfl,v,_,rfl,.ref a,[],rfl,rfl,?_⟩
    exact en.nx _ cs2 _ _ _ w2.2 S2 (by rw [List.length_set,List.length_set]; exact hl) ((dJ hbn ((x1.ext.trans x2.ext).trans x4)).trans aV)⟩⟩) w⟩) q⟩
theorem k1a {sm : Stmt} {i j l : Nat} (hf : SEm f) (hg : SEm g) (hh : SEm h) (hi : i < n) (hj : j < n) (hl' : l < n) (hsm : PS X sm (tPar3 i j l (tCons (RE X.K f) (tCons (RE X.K g) (tCons (RE X.K h) tNil))))) : PS X sm (RS X.K n fun L cs k => f L cs fun d cs1 => g L cs1 fun e cs2 => h L cs2 fun r cs3 => k.nx (((L.set i (.val d)).set j (.val e)).set l (.val r)) cs3) :=
  hsm.imp fun D σ H ⟨p,L,cs,k,R,hl,en,q⟩ => ⟨p,L,cs,R,hf _ _ _ _ (fun d cs1 w v p1 H1 R1 x1 r1 => ⟨p1,L,cs1,R1,hg _ _ _ _ (fun e cs2 w v2 p2 H2 R2 x2 r2 => ⟨p2,L,cs2,R2,hh _ _ _ _ (fun r cs3 w v3 p3 H3 R3 x3 r3 => by
    have S1 := R3.store (by rw [hl]; exact hi) ((r1.mv x2.ext.mv).mv x3.ext.mv)
    have S2 := S1.store (i := j) (by rw [List.length_set,hl]; exact hj) ((r2.mv x3.ext.mv).mv Mv.drop)
    have S3 := S2.store (i := l) (by rw [List.length_set,List.length_set,hl]; exact hl') ((r3.mv Mv.drop).mv Mv.drop)
    exact ⟨v,v2,v3,rfl,en.nx _ cs3 _ _ H3 w S3 (by rw [List.length_set,List.length_set,List.length_set]; exact hl) ((((x1.ext.trans (x2.ext.trans x3.ext)).trans aV).trans aV).trans aV)⟩) w⟩) w⟩) q⟩
end
end Sp
set_option autoImplicit true
namespace Sp
open PySem PySem.Spec PyProof.Rows L2
section
variable {env : Env} {x y z : Str} {px py pz pt pt2 : Pos} {kt k2 : Nat} {a b c : Expr}
theorem kP (hk : env.scope.kind = .function) : env.blockKind = .function := by unfold Env.blockKind; rw [hk]; rfl
theorem dQ (h : env.scope.names.lookup x = some .local) : env.kindOf x = some .local := h
theorem star_any (es : List Expr) (h : es.all (fun e => !starred e) = true) : (es.any fun | .Starred .. => true | _ => false) = false := by
  have h0 : ∀ e : Expr,(match e with | .Starred .. => true | _ => false) = starred e := fun e => by cases e <;> rfl
  rw [List.any_eq_false]
  intro e he
  have := List.all_eq_true.mp h e he
  rw [h0]
  simpa using this
theorem j8 (hk : env.scope.kind = .function) (hx : env.scope.names.lookup x = some .local) (hy : env.scope.names.lookup y = some .local) (hl : (py.line == px.line) = true) (hxy : x ≠ y) (s1 : starred a = false) (s2 : starred b = false)
    (hf : [a,b].all (foldedForSure 8) = false) (hc : [a,b].all (constantsAlone 8) = false) : swappedStores [.Tuple [.Name x px,.Name y py] kt pt] (.Tuple [a,b] k2 pt2) env = pure (some [x,y]) := by
  have hs := star_any [a,b] (by simp [s1,s2])
  have he : ([x,y] : List Str).eraseDups.length = 2 := by
    have e : (y == x) = false := by simpa using fun h => hxy h.symm
    simp [List.eraseDups,List.eraseDupsBy,List.eraseDupsBy.loop,e]
  have hl' : py.line = px.line := eq_of_beq hl
  have hf' : (foldedForSure 8 a && foldedForSure 8 b) = false := by simpa [List.all_cons] using hf
  have hc' : (constantsAlone 8 a && constantsAlone 8 b) = false := by simpa [List.all_cons] using hc
  unfold swappedStores
  simp only [List.length_cons,List.length_nil,kP hk,List.any_cons,List.any_nil,List.head?_cons,Option.map_some,Option.getD_some,Expr.pos,List.filterMap_cons,List.filterMap_nil,dQ hx,dQ hy,hl',beq_self_eq_true,Bool.and_self,if_true,he,List.all_cons,List.all_nil,Bool.and_true,hf',hc']
  refine (if_neg (by decide)).trans ((if_neg fun q => ?_).trans ((if_neg (by decide)).trans ((if_neg (by decide)).trans (if_neg (by decide)))))
  exact absurd (show ([a,b].any fun | .Starred .. => true | _ => false) = true from q) (by rw [hs]; decide)
theorem l2a (hk : env.scope.kind = .function) (hx : env.scope.names.lookup x = some .local) (hy : env.scope.names.lookup y = some .local) (hz : env.scope.names.lookup z = some .local) (hl : (py.line == px.line) = true) (hl2 : (pz.line == px.line) = true) (hxy : x ≠ y) (hxz : x ≠ z) (hyz : y ≠ z) (hs0 : [a,b,c].all (fun e => !starred e) = true)
    (hf : [a,b,c].all (foldedForSure 8) = false) (hc : [a,b,c].all (constantsAlone 8) = false) : swappedStores [.Tuple [.Name x px,.Name y py,.Name z pz] kt pt] (.Tuple [a,b,c] k2 pt2) env = pure (some [x,y,z]) := by
  have hs := star_any [a,b,c] hs0
  have he : ([x,y,z] : List Str).eraseDups.length = 3 := by
    have e : (y == x) = false := by simpa using fun h => hxy h.symm
    have e2 : (z == x) = false := by simpa using fun h => hxz h.symm
    have e3 : (z == y) = false := by simpa using fun h => hyz h.symm
    simp [List.eraseDups,List.eraseDupsBy,List.eraseDupsBy.loop,e,e2,e3]
  have hl' : py.line = px.line := eq_of_beq hl
  have hl2' : pz.line = px.line := eq_of_beq hl2
  have hf' : (foldedForSure 8 a && (foldedForSure 8 b && foldedForSure 8 c)) = false := by simpa [List.all_cons] using hf
  have hc' : (constantsAlone 8 a && (constantsAlone 8 b && constantsAlone 8 c)) = false := by simpa [List.all_cons] using hc
  unfold swappedStores
  simp only [List.length_cons,List.length_nil,kP hk,List.any_cons,List.any_nil,List.head?_cons,Option.map_some,Option.getD_some,Expr.pos,List.filterMap_cons,List.filterMap_nil,dQ hx,dQ hy,dQ hz,hl',hl2',beq_self_eq_true,Bool.and_self,if_true,he,List.all_cons,List.all_nil,Bool.and_true,hf',hc']
  refine (if_neg (by decide)).trans ((if_neg fun q => ?_).trans ((if_neg (by decide)).trans ((if_neg (by decide)).trans (if_neg (by decide)))))
  exact absurd (show ([a,b,c].any fun | .Starred .. => true | _ => false) = true from q) (by rw [hs]; decide)
def tupPlain : Expr -> Bool
  | .Tuple vs _ _ => vs.all (foldedForSure 8)
  | _ => true
theorem l1a {es : List Expr} {e : Expr} (h : tupPlain e = true) : swappedStores [.Tuple es kt pt] e env = pure none := by
  cases e <;> first
    | rfl
    | (have h : List.all _ (foldedForSure 8) = true := h
       unfold swappedStores
       simp only [h,if_true]
       split
       · rfl
       · split
         · rfl
         · split <;> rfl)
def anyCell (sc : Scope) (es : List Expr) : Bool := es.any fun e => match e with
  | .Name x _ => (match sc.names.lookup x with
    | some .local => false
    | _ => true)
  | _ => true
theorem lZ {α β : Type} {f : α -> Option β} : ∀ {l : List α},(∃ e ∈ l,f e = none) -> (l.filterMap f).length < l.length
  | [],⟨e,h,_⟩ => by simp at h
  | x :: r,⟨e,h,he⟩ => by
    have hle := List.length_filterMap_le f r
    rw [List.filterMap_cons]
    rcases List.mem_cons.mp h with rfl | h
    · rw [he]
      simp only [List.length_cons]
      omega
    · have := lZ ⟨e,h,he⟩
      cases f x with
      | none => simp only [List.length_cons]; omega
      | some y => simp only [List.length_cons]; omega
theorem j7 {es : List Expr} {e : Expr} (h : anyCell env.scope es = true) : swappedStores [.Tuple es kt pt] e env = pure none := by
  cases e <;> first
    | rfl
    | (unfold swappedStores
       simp only
       split
       · rfl
       · split
         · rfl
         · refine if_pos ?_
           rw [Bool.or_eq_true]
           left
           obtain ⟨e,he,hc⟩ := List.any_eq_true.mp h
           have lt : ∀ {f : Expr -> Option Str},f e = none -> (es.filterMap f).length < es.length := fun hf => lZ ⟨e,he,hf⟩
           have ne : ∀ {f : Expr -> Option Str},f e = none -> ((es.filterMap f).length != es.length) = true := fun hf => by
             have := lt hf
             simp only [bne_iff_ne,ne_eq]
             omega
           refine ne ?_
           cases e <;> first
             | rfl
             | (rename_i x pos
                have hc : (match env.scope.names.lookup x with
                  | some .local => false
                  | _ => true) = true := hc
                have hk : (env.kindOf x == some NameKind.local) = false := by
                  unfold Env.kindOf
                  cases q : env.scope.names.lookup x with
                  | none => rfl
                  | some k =>
                    rw [q] at hc
                    cases k <;> first
                      | rfl
                      | cases hc
                simp only [hk,Bool.false_and]
                rfl))
end
def isFn (sc : Scope) : Bool := match sc.kind with
  | .function => true
  | _ => false
def locOnly (sc : Scope) (x : Str) : Bool := match sc.names.lookup x with
  | some .local => true
  | _ => false
theorem dN {sc : Scope} (h : isFn sc = true) : sc.kind = .function := by
  unfold isFn at h
  split at h
  · assumption
  · cases h
theorem aJ {sc : Scope} {x : Str} (h : locOnly sc x = true) : sc.names.lookup x = some .local := by
  unfold locOnly at h
  split at h
  · assumption
  · cases h
mutual
def chkS (T : Tb) (N : List Str) : CS -> Scope -> Stmt -> Bool
  | .set g c,sc,st => match st with
    | .Assign [tg] e _ => (match g with
      | .nm i => chkSet T N sc i c tg e
      | .tp ts => chkTg N sc (.tp ts) tg && chkE T N c sc e && (tupPlain e || (match tg with
        | .Tuple es _ _ => anyCell sc es
        | _ => false)))
    | _ => false
  | .own i c,sc,st => match st with
    | .Assign [tg] e _ => chkSet T N sc i c tg e && c.fresh
    | _ => false
  | .par i j a b,sc,st => match st with
    | .Assign [.Tuple [.Name x px,.Name y py] _ _] (.Tuple [u,v] _ _) _ => isFn sc && atN N i x && atN N j y && decide (i ≠ j) && locOnly sc x && locOnly sc y && (py.line == px.line) && chkE T N a sc u && chkE T N b sc v && !starred u && !starred v &&
      !([u,v].all (foldedForSure 8)) && !([u,v].all (constantsAlone 8))
    | _ => false
  | .paro i j a b,sc,st => match st with
    | .Assign [.Tuple [.Name x px,.Name y py] _ _] (.Tuple [u,v] _ _) _ => isFn sc && atN N i x && atN N j y && decide (i ≠ j) && locOnly sc x && locOnly sc y && (py.line == px.line) && chkE T N a sc u && chkE T N b sc v && !starred u && !starred v &&
      !([u,v].all (foldedForSure 8)) && !([u,v].all (constantsAlone 8)) && a.fresh && b.fresh
    | _ => false
  | .parv i j a b,sc,st => match st with
    | .Assign [.Tuple [.Name x px,.Name y py] _ _] (.Tuple [u,v] _ _) _ => isFn sc && atN N i x && atN N j y && decide (i ≠ j) && locOnly sc x && locOnly sc y && (py.line == px.line) && chkE T N a sc u && chkE T N b sc v && !starred u && !starred v &&
      !([u,v].all (foldedForSure 8)) && !([u,v].all (constantsAlone 8)) && b.fresh
    | _ => false
  | .parc i j a b,sc,st => match st with
    | .Assign [.Tuple [x,y] kt pt] (.Tuple [u,v] k2 pt2) _ => chkTg N sc (.tp (.cons (.nm i) (.cons (.nm j) .nil))) (.Tuple [x,y] kt pt) && decide (i ≠ j) && chkE T N a sc u && chkE T N b sc v && !starred u && !starred v && b.fresh && anyCell sc [x,y]
    | _ => false
  | .par3 i j l a b c,sc,st => match st with
    | .Assign [.Tuple [.Name x px,.Name y py,.Name z pz] _ _] (.Tuple [u,v,w] _ _) _ => isFn sc && atN N i x && atN N j y && atN N l z && decide (i ≠ j) && decide (i ≠ l) && decide (j ≠ l) && locOnly sc x && locOnly sc y && locOnly sc z && (py.line == px.line) && (pz.line == px.line) && chkE T N a sc u && chkE T N b sc v && chkE T N c sc w && [u,v,w].all (fun e => !starred e) &&
      !([u,v,w].all (foldedForSure 8)) && !([u,v,w].all (constantsAlone 8))
    | _ => false
  | .fr _ s,sc,st => chkS T N s sc st
  | .setix o i c,sc,st => match st with
    | .Assign [.Subscript x y _] e _ => chkE T N o sc x && chkE T N i sc y && chkE T N c sc e && !isSlice y
    | _ => false
  | .setfld o c f e,sc,st => match st with
    | .Assign [.Attribute x g _] v _ => decide (g = f) && T.fds.contains (c,f) && chkE T N o sc x && chkE T N e sc v
    | _ => false
  | .swp o i o2 i2 a b,sc,st => match st with
    | .Assign [.Tuple [.Subscript x y p1,.Subscript z w p2] kt pt] (.Tuple [u,v] k2 pt2) _ => chkE T N o sc x && chkE T N i sc y && chkE T N o2 sc z && chkE T N i2 sc w && chkEs T N (.cons a (.cons b .nil)) sc [u,v] && [u,v].all (fun e => !starred e) && !isSlice y && !isSlice w &&
      anyCell sc [.Subscript x y p1,.Subscript z w p2]
    | _ => false
  | .aug i o c,sc,st => match st with
    | .AugAssign (.Name x _) .Add e _ => atN N i x && locB sc x && chkE T N c sc e && (match o with
      | .add => true
      | _ => false)
    | _ => false
  | .pops j o,sc,st => match st with
    | .Assign [.Name y py] (.Call (.Attribute x name apos) [] [] cpos) _ => atN N j y && locB sc y && decide (name = ("pop" : Str)) && chkE T N o sc x && baseB x && (apos.endLine == cpos.line)
    | _ => false
  | .mth o m as,sc,st => match st with
    | .Expr (.Call (.Attribute x name apos) es [] cpos) _ => decide (name = (m.nm : Str)) && chkE T N o sc x && chkEs T N as sc es && es.all (fun e => !starred e) && fewB es && baseB x && (apos.endLine == cpos.line)
    | _ => false
  | .exp c,sc,st => match st with
    | .Expr e _ => chkE T N c sc e && !isComp e
    | _ => false
  | .ret c,sc,st => match st with
    | .Return (some e) _ => chkE T N c sc e
    | _ => false
  | .retn,sc,st => match st with
    | .Return none _ => true
    | _ => false
  | .ifs t a b,sc,st => match st with
    | .If e x y _ => chkE T N t sc e && chkSs T N a sc x && chkSs T N b sc y
    | _ => false
  | .whl t a,sc,st => match st with
    | .While e x [] _ => chkE T N t sc e && chkSs T N a sc x
    | _ => false
  | .for_ g src a,sc,st => match st with
    | .For tg it x [] _ => chkTg N sc g tg && chkI T N src sc tg it && chkSs T N a sc x && !srcB src && !isSet it
    | _ => false
  | .pass,sc,st => match st with
    | .Pass _ => true
    | _ => false
  | .brk,sc,st => match st with
    | .Break _ => true
    | _ => false
  | .cnt,sc,st => match st with
    | .Continue _ => true
    | _ => false
  | .rse,sc,st => match st with
    | .Raise _ _ _ => true
    | _ => false
def chkSs (T : Tb) (N : List Str) : CSs -> Scope -> List Stmt -> Bool
  | .nil,sc,st => match st with
    | [] => true
    | _ => false
  | .cons s r,sc,st => match st with
    | x :: xs => chkS T N s sc x && chkSs T N r sc xs
    | _ => false
end
mutual
theorem gO {N : List Str} {sc : Scope} : ∀ {g : Tg} {e : Expr},chkTg N sc g e = true -> ∀ i ∈ tgSlots g,i < N.length
  | .nm j,e,h,i,hi => by
    unfold chkTg at h
    split at h
    · rw [Bool.and_eq_true] at h
      have : i = j := by simpa [tgSlots] using hi
      subst this
      exact (List.getElem?_eq_some_iff.mp (aK h.1)).1
    · cases h
  | .tp ts,e,h,i,hi => by
    unfold chkTg at h
    split at h
    · exact lB h i hi
    · cases h
theorem lB {N : List Str} {sc : Scope} : ∀ {g : Tgs} {es : List Expr},chkTgs N sc g es = true -> ∀ i ∈ tgsSlots g,i < N.length
  | .nil,_,_,i,hi => by simp [tgsSlots] at hi
  | .cons t r,[],h,i,hi => by unfold chkTgs at h; cases h
  | .cons t r,e :: es,h,i,hi => by
    unfold chkTgs at h
    simp only [Bool.and_eq_true] at h
    rcases List.mem_append.mp (show i ∈ tgSlots t ++ tgsSlots r from hi) with q | q
    · exact gO h.1 i q
    · exact lB h.2 i q
end
theorem aY {b : Bool} (h : (!b) = true) : b = false := by
  cases b
  · rfl
  · cases h
theorem aR {N : List Str} {i : Nat} {x : Str} (h : atN N i x = true) : i < N.length := (List.getElem?_eq_some_iff.mp (aK h)).1
section
variable {N : List Str} {T : Tb} {G : SF} {con : Str -> Option D}
theorem oH {sc : Scope} {i : Nat} {c : CE} {tg e : Expr} (h : chkSet T N sc i c tg e = true) : i < N.length := by
  unfold chkSet at h
  split at h
  · simp only [Bool.and_eq_true] at h
    exact aR h.1.1.1
  · cases h
mutual
theorem okS (hG : SFm G) : ∀ (s : CS) (X : Cx) (st : Stmt),Gs X N T G con -> chkS T N s X.env.scope st = true -> PS X st (RS X.K N.length (wpS G con s))
  | .set gt c,X,st,gs,h => by
    unfold chkS at h
    split at h
    · rename_i tg e pos
      cases gt with
      | nm i =>
        have hi := oH h
        exact n9 (aA hG c) (fun j hj => by
          have : j = i := by simpa [tgSlots] using hj
          rw [this]; exact hi) (okSet hG gs h).re
      | tp ts =>
        simp only [Bool.and_eq_true] at h
        obtain ⟨⟨h1,h2⟩,h3⟩ := h
        have k := okE hG c X e gs.g h2
        have hp := cD gs.tg h1
        have hlt := gO h1
        have h1' := h1
        unfold chkTg at h1'
        split at h1'
        · rename_i es kk tpos
          have hw : swappedStores [.Tuple es kk tpos] e X.env = pure none := by
            rw [Bool.or_eq_true] at h3
            rcases h3 with h3 | h3
            · exact l1a h3
            · exact j7 h3
          exact n9 (aA hG c) hlt (ps_asg k.pe hp (l4a (es := es) (k := kk) (p := tpos) pos.line X.env) hw rfl)
        · cases h1'
    · cases h
  | .own i c,X,st,gs,h => by
    unfold chkS at h
    split at h
    · simp only [Bool.and_eq_true] at h
      exact kZa (aA hG c) (oH h.1) ((okSet hG gs h.1).rf h.2)
    · cases h
  | .parc i j a b,X,st,gs,h => by
    unfold chkS at h
    split at h
    · rename_i x y kt pt u v k2 pt2 pos
      simp only [Bool.and_eq_true] at h
      obtain ⟨⟨⟨⟨⟨⟨⟨h1,h2⟩,h3⟩,h4⟩,h5⟩,h6⟩,h7⟩,h8⟩ := h
      have hij := of_decide_eq_true h2
      have hlt := gO h1
      have su := aE h5
      have sv := aE h6
      have ku := okE hG a X u gs.g h3
      have kv := okE hG b X v gs.g h4
      exact k2a (aA hG a) (aA hG b) (hlt i (by simp [tgSlots,tgsSlots])) (hlt j (by simp [tgSlots,tgsSlots])) hij (ps_asg (pe_tup (pa_cons ku.pe (pa_cons (kv.rf h7) pa_nil (aD sv _ _)) (aD su _ _))) (cD gs.tg h1) rfl (j7 h8) rfl)
    · cases h
  | .parv i j a b,X,st,gs,h => by
    unfold chkS at h
    split at h
    · rename_i x px y py kt pt u v k2 pt2 pos
      simp only [Bool.and_eq_true] at h
      obtain ⟨⟨⟨⟨⟨⟨⟨⟨⟨⟨⟨⟨⟨h1,h2⟩,h3⟩,h4⟩,h5⟩,h6⟩,h7⟩,h8⟩,h9⟩,h10⟩,h11⟩,h12⟩,h13⟩,h14⟩ := h
      have hij := of_decide_eq_true h4
      have e1 := aK h2
      have e2 := aK h3
      have hxy : x ≠ y := fun e => by
        subst e
        obtain ⟨l1,q1⟩ := List.getElem?_eq_some_iff.mp e1
        obtain ⟨l2,q2⟩ := List.getElem?_eq_some_iff.mp e2
        exact hij ((List.getElem_inj gs.g.nd).mp (q1.trans q2.symm))
      have su := aE h10
      have sv := aE h11
      have ku := okE hG a X u gs.g h8
      have kv := okE hG b X v gs.g h9
      refine k4a (aA hG a) (aA hG b) (aR h2) (aR h3) hij (ps_par gs.g.calm (by rw [gs.g.hN]; exact gs.g.nd) (by rw [gs.g.hN]; exact e1) (by rw [gs.g.hN]; exact e2) hij (aJ h5) (aJ h6) (pa_cons ku.pe (pa_cons (kv.rf h14) pa_nil (aD sv _ _)) (aD su _ _))
        (j8 (dN h1) (aJ h5) (aJ h6) h7 hxy su sv (aY h12) (aY h13)) rfl)
    · cases h
  | .paro i j a b,X,st,gs,h => by
    unfold chkS at h
    split at h
    · rename_i x px y py kt pt u v k2 pt2 pos
      simp only [Bool.and_eq_true] at h
      obtain ⟨⟨⟨⟨⟨⟨⟨⟨⟨⟨⟨⟨⟨⟨h1,h2⟩,h3⟩,h4⟩,h5⟩,h6⟩,h7⟩,h8⟩,h9⟩,h10⟩,h11⟩,h12⟩,h13⟩,h14⟩,h15⟩ := h
      have hij := of_decide_eq_true h4
      have e1 := aK h2
      have e2 := aK h3
      have hxy : x ≠ y := fun e => by
        subst e
        obtain ⟨l1,q1⟩ := List.getElem?_eq_some_iff.mp e1
        obtain ⟨l2,q2⟩ := List.getElem?_eq_some_iff.mp e2
        exact hij ((List.getElem_inj gs.g.nd).mp (q1.trans q2.symm))
      have su := aE h10
      have sv := aE h11
      have ku := okE hG a X u gs.g h8
      have kv := okE hG b X v gs.g h9
      refine k3a (aA hG a) (aA hG b) (aR h2) (aR h3) (ps_par gs.g.calm (by rw [gs.g.hN]; exact gs.g.nd) (by rw [gs.g.hN]; exact e1) (by rw [gs.g.hN]; exact e2) hij (aJ h5) (aJ h6) (pa_cons (ku.rf h14) (pa_cons (kv.rf h15) pa_nil (aD sv _ _)) (aD su _ _))
        (j8 (dN h1) (aJ h5) (aJ h6) h7 hxy su sv (aY h12) (aY h13)) rfl)
    · cases h
  | .par i j a b,X,st,gs,h => by
    unfold chkS at h
    split at h
    · rename_i x px y py kt pt u v k2 pt2 pos
      simp only [Bool.and_eq_true] at h
      obtain ⟨⟨⟨⟨⟨⟨⟨⟨⟨⟨⟨⟨h1,h2⟩,h3⟩,h4⟩,h5⟩,h6⟩,h7⟩,h8⟩,h9⟩,h10⟩,h11⟩,h12⟩,h13⟩ := h
      have hij := of_decide_eq_true h4
      have e1 := aK h2
      have e2 := aK h3
      have hxy : x ≠ y := fun e => by
        subst e
        obtain ⟨l1,q1⟩ := List.getElem?_eq_some_iff.mp e1
        obtain ⟨l2,q2⟩ := List.getElem?_eq_some_iff.mp e2
        exact hij ((List.getElem_inj gs.g.nd).mp (q1.trans q2.symm))
      have su := aE h10
      have sv := aE h11
      have ku := okE hG a X u gs.g h8
      have kv := okE hG b X v gs.g h9
      refine k0a (aA hG a) (aA hG b) (aR h2) (aR h3) (ps_par gs.g.calm (by rw [gs.g.hN]; exact gs.g.nd) (by rw [gs.g.hN]; exact e1) (by rw [gs.g.hN]; exact e2) hij (aJ h5) (aJ h6) (pa_cons ku.pe (pa_cons kv.pe pa_nil (aD sv _ _)) (aD su _ _))
        (j8 (dN h1) (aJ h5) (aJ h6) h7 hxy su sv (aY h12) (aY h13)) rfl)
    · cases h
  | .par3 i j l a b c,X,st,gs,h => by
    unfold chkS at h
    split at h
    · rename_i x px y py z pz kt pt u v w k2 pt2 pos
      simp only [Bool.and_eq_true] at h
      obtain ⟨⟨⟨⟨⟨⟨⟨⟨⟨⟨⟨⟨⟨⟨⟨⟨⟨h1,h2⟩,h3⟩,h3'⟩,h4⟩,h4'⟩,h4''⟩,h5⟩,h6⟩,h6'⟩,h7⟩,h7'⟩,h8⟩,h9⟩,h9'⟩,h10⟩,h12⟩,h13⟩ := h
      have hij := of_decide_eq_true h4
      have hil := of_decide_eq_true h4'
      have hjl := of_decide_eq_true h4''
      have e1 := aK h2
      have e2 := aK h3
      have e3 := aK h3'
      have ne : ∀ {i j : Nat} {x y : Str},N[i]? = some x -> N[j]? = some y -> i ≠ j -> x ≠ y := fun {i j x y} e1 e2 hij e => by
        subst e
        obtain ⟨l1,q1⟩ := List.getElem?_eq_some_iff.mp e1
        obtain ⟨l2,q2⟩ := List.getElem?_eq_some_iff.mp e2
        exact hij ((List.getElem_inj gs.g.nd).mp (q1.trans q2.symm))
      have h10' := h10
      simp only [List.all_cons,List.all_nil,Bool.and_eq_true] at h10
      have su := aE h10.1
      have sv := aE h10.2.1
      have sw := aE h10.2.2.1
      have ku := okE hG a X u gs.g h8
      have kv := okE hG b X v gs.g h9
      have kw := okE hG c X w gs.g h9'
      refine k1a (aA hG a) (aA hG b) (aA hG c) (aR h2) (aR h3) (aR h3') (ps_par3 gs.g.calm (by rw [gs.g.hN]; exact gs.g.nd) (by rw [gs.g.hN]; exact e1) (by rw [gs.g.hN]; exact e2) (by rw [gs.g.hN]; exact e3) hij hil hjl (aJ h5) (aJ h6) (aJ h6') (pa_cons ku.pe (pa_cons kv.pe (pa_cons kw.pe pa_nil (aD sw _ _)) (aD sv _ _)) (aD su _ _))
        (l2a (dN h1) (aJ h5) (aJ h6) (aJ h6') h7 h7' (ne e1 e2 hij) (ne e1 e3 hil) (ne e2 e3 hjl) h10' (aY h12) (aY h13)) rfl)
    · cases h
  | .fr is s,X,st,gs,h => by
    unfold chkS at h
    exact kTa (okS hG s X st gs h)
  | .setix o i c,X,st,gs,h => by
    unfold chkS at h
    split at h
    · rename_i x y tpos e pos
      simp only [Bool.and_eq_true] at h
      obtain ⟨⟨⟨h1,h2⟩,h3⟩,h4⟩ := h
      have ko := okE hG o X x gs.g h1
      have ki := okE hG i X y gs.g h2
      have kc := okE hG c X e gs.g h3
      have h4 : isSlice y = false := by simpa using h4
      refine lAa (aA hG o) (aA hG i) (aA hG c) (o := x) (i := y) (ps_asg kc.pe (pg_sub ko.po ki.pe (jZ (un64 gs.g)) fun v => ?_) (l3a (o := x) (i := y) (p := tpos) pos.line X.env) rfl rfl)
      cases y <;> first | rfl | cases h4
    · cases h
  | .setfld o c f e,X,st,gs,h => by
    unfold chkS at h
    split at h
    · rename_i x g p2 v pos
      simp only [Bool.and_eq_true] at h
      obtain ⟨⟨⟨h1,h2⟩,h3⟩,h4⟩ := h
      have h1 := of_decide_eq_true h1
      subst h1
      obtain ⟨C,hC,hn⟩ := gs.g.fds _ _ h2
      unfold wpS
      exact k9a (aA hG e) (aA hG o) hC hn (okE hG o X x gs.g h3).pe (okE hG e X v gs.g h4).pe
    · cases h
  | .swp o i o2 i2 a b,X,st,gs,h => by
    unfold chkS at h
    split at h
    · rename_i x y p1 z w p2 kt0 pt u v k2 pt2 pos
      simp only [Bool.and_eq_true] at h
      obtain ⟨⟨⟨⟨⟨⟨⟨⟨h1,h2⟩,h3⟩,h4⟩,h5⟩,h7⟩,h9⟩,h10⟩,h11⟩ := h
      have ko := okE hG o X x gs.g h1
      have ki := okE hG i X y gs.g h2
      have ko2 := okE hG o2 X z gs.g h3
      have ki2 := okE hG i2 X w gs.g h4
      have h9 : isSlice y = false := by simpa using h9
      have h10 : isSlice w = false := by simpa using h10
      have ma := aA (con := con) hG a
      have mb := aA (con := con) hG b
      have kt := cF (aA (con := con) hG (.tup (.cons a (.cons b .nil)))) (jW (k := k2) (pos := pt2) (aI hG (.cons a (.cons b .nil))) (okEs hG (.cons a (.cons b .nil)) X _ gs.g h5 h7))
      have kt : PE X (.Tuple [u,v] k2 pt2) (RE X.K fun L cs Q => wpE G con a L cs fun d cs1 => wpE G con b L cs1 fun e cs2 => Q (.tup [d,e]) cs2) :=
        kt.imp fun σ H Q ⟨p,L,cs,R,q⟩ => ⟨p,L,cs,R,by
          unfold wpE wpEs wpEs wpEs
          exact ma _ _ _ _ (fun d c1 x => mb _ _ _ _ (fun e c2 x => ⟨by show 2 <= sizeLine; decide,x⟩) x) q⟩
      have g1 := pg_sub (pos := p1) ko.po ki.pe (jZ (un64 gs.g)) fun v => by cases y <;> first | rfl | cases h9
      have g2 := pg_sub (pos := p2) ko2.po ki2.pe (jZ (un64 gs.g)) fun v => by cases w <;> first | rfl | cases h10
      exact lBa (o := x) (i := y) (o2 := z) (i2 := w) (aA hG o) (aA hG i) (aA hG o2) (aA hG i2) ma mb
        (ps_asg kt (pg_tup gs.g.calm (pgs_cons g1 (pgs_cons g2 pgs_nil rfl) rfl) rfl rfl) rfl (j7 h11) rfl)
    · cases h
  | .aug i o c,X,st,gs,h => by
    unfold chkS at h
    split at h
    · rename_i x px e pos
      simp only [Bool.and_eq_true] at h
      obtain ⟨⟨⟨h1,h2⟩,h3⟩,h4⟩ := h
      have kc := okE hG c X e gs.g h3
      cases o <;> first
        | (cases h4; done)
        | (have hN : X.N.Nodup := by rw [gs.g.hN]; exact gs.g.nd
           have hi : X.N[i]? = some x := by rw [gs.g.hN]; exact aK h1
           have key : PS X (.AugAssign (.Name x px) .Add e pos) (tAug i (RE X.K (wpE G con c)) (ipI fun i j => i + j)) := by
             rcases g8 h2 with q | q
             · exact ps_aug hN hi (.inl q) kc.pe ip_add (.inr q)
             · exact ps_aug hN hi (.inr q) kc.pe ip_add (.inl (gs.tg.cell _ q).2)
           have r := kOa (n := N.length) (v := e) (aA hG c) (aR h1) key
           exact r.imp fun D σ H ⟨p,L,cs,k,R,hl,en,q⟩ => ⟨p,L,cs,k,R,hl,en,by
             unfold wpS at q
             split at q
             · rename_i z eL
               have goal : (match L[i]? with
                 | some (.val (.int x)) => wpE G con c L cs fun d cs1 => match d with
                   | .int y => k.nx (L.set i (.val (.int (x + y)))) cs1
                   | _ => False
                 | _ => False) := by
                 rw [eL]
                 refine aA hG c _ _ _ _ (fun d cs1 w => ?_) q
                 cases d <;> exact w
               first
                 | exact goal
                 | (rw [eL] at goal; exact goal)
             · exact q.elim⟩)
    · cases h
  | .pops j o,X,st,gs,h => by
    unfold chkS at h
    split at h
    · rename_i y py x name apos cpos pos
      simp only [Bool.and_eq_true] at h
      obtain ⟨⟨⟨⟨⟨h1,h2⟩,h3⟩,h4⟩,h5⟩,h6⟩ := h
      have h3 := of_decide_eq_true h3
      exact k5a (un64 gs.g) (aA hG o) h3 (okE hG o X x gs.g h4).po h5 h6 (aR h1) fun te hp => jY gs h1 h2 hp (eG rfl _ _ _)
    · cases h
  | .mth o m as,X,st,gs,h => by
    unfold chkS at h
    split at h
    · rename_i x name apos es cpos pos
      simp only [Bool.and_eq_true] at h
      obtain ⟨⟨⟨⟨⟨⟨h1,h2⟩,h3⟩,h4⟩,h5⟩,h6⟩,h7⟩ := h
      have h1 := of_decide_eq_true h1
      have ko := okE hG o X _ gs.g h2
      cases es with
      | nil =>
        cases as with
        | nil => exact kWa (un64 gs.g) m (aA hG o) h1 ko.po h6 h7 fun te hp => ps_expr hp (eG rfl _ _ _)
        | cons c r => unfold chkEs at h3; cases h3
      | cons e es => exact kVa (un64 gs.g) m (aA hG o) (aI hG as) h1 ko.po (okEs hG as X _ gs.g h3 h4) h6 h7 h4 h5 fun te hp => ps_expr hp (eG rfl _ _ _)
    · cases h
  | .exp c,X,st,gs,h => by
    unfold chkS at h
    split at h
    · simp only [Bool.and_eq_true] at h
      exact kRa (aA hG c) (ps_expr (okE hG c X _ gs.g h.1).pe (eG (by simpa using h.2) _ _ _))
    · cases h
  | .ret c,X,st,gs,h => by
    unfold chkS at h
    split at h
    · exact k6a (aA hG c) (ps_ret (okE hG c X _ gs.g h).pe)
    · cases h
  | .retn,X,st,gs,h => by
    unfold chkS at h
    split at h
    · exact k7a ps_retN
    · cases h
  | .ifs t a b,X,st,gs,h => by
    unfold chkS at h
    split at h
    · simp only [Bool.and_eq_true] at h
      obtain ⟨⟨h1,h2⟩,h3⟩ := h
      exact (kUa (t1 := tNext) (t2 := tNext) (cJ (aA hG t)) (ps_if (okE hG t X _ gs.g h1).pt (okSs hG a X _ gs h2) (okSs hG b X _ gs h3)))
    · cases h
  | .whl t a,X,st,gs,h => by
    unfold chkS at h
    split at h
    · simp only [Bool.and_eq_true] at h
      exact lCa (cJ (aA hG t)) (ps_while gs.pass (okE hG t X _ gs.g h.1).pt (okSs hG a X _ gs h.2))
    · cases h
  | .for_ gt src a,X,st,gs,h => by
    unfold chkS at h
    split at h
    · simp only [Bool.and_eq_true] at h
      obtain ⟨⟨⟨⟨h1,h2⟩,h3⟩,h4⟩,h5⟩ := h
      have hb : srcB src = false := by simpa using h4
      have hi := okI hG src X _ _ gs.g h2
      rw [hb] at hi
      exact kSa (bV hG src) (kF hG src) (gO h1) (ps_for gs.pass gs.g.calm hi (cD gs.tg h1) (okSs hG a X _ gs h3) (i5 (by simpa using h5) _))
    · cases h
  | .pass,X,st,gs,h => by
    unfold chkS at h
    split at h
    · exact kXa ps_pass
    · cases h
  | .brk,X,st,gs,h => by
    unfold chkS at h
    split at h
    · exact kPa ps_break
    · cases h
  | .cnt,X,st,gs,h => by
    unfold chkS at h
    split at h
    · exact kQa ps_continue
    · cases h
  | .rse,X,st,gs,h => by
    constructor
    intros
    rename_i hq
    obtain ⟨_,_,_,_,_,_,_,q⟩ := hq
    exact q.elim
theorem okSs (hG : SFm G) : ∀ (s : CSs) (X : Cx) (st : List Stmt),Gs X N T G con -> chkSs T N s X.env.scope st = true -> PSs X st (RS X.K N.length (wpSs G con s))
  | .nil,X,[],gs,h => kYa
  | .nil,X,_ :: _,gs,h => by unfold chkSs at h; cases h
  | .cons s r,X,[],gs,h => by unfold chkSs at h; cases h
  | .cons s r,X,x :: xs,gs,h => by
    unfold chkSs at h
    simp only [Bool.and_eq_true] at h
    exact (k8a (wpS_mono (con := con) hG s) (okS hG s X x gs h.1) (okSs hG r X xs gs h.2)).imp fun D σ H q => q
end
end
end Sp
set_option autoImplicit true
namespace Sp
open PySem PySem.Spec PyProof.Rows L2
section
variable {K : PySem.W.Frag} {p p' : Pm} {H H' : Hp} {cs cs' : Cells} {v : V} {d : D}
theorem mL {Q : D -> Cells -> Prop} {W : VK} (C0 : CsOk K p H cs) (h : ∃ cs2,Kept cs d cs' cs2 /\ Q d cs2) (hp : p.cell.length = cs.length) (ok : p'.Ok) (C : CsOk K p' H' cs') (x : Ext p p' H H') (r : Rep K p' H' v d)
    (w : ∀ d cs' v p' H',Q d cs' -> p'.own = (fun _ => none) -> p'.Ok -> CsOk K p' H' cs' -> Ext p p' H H' -> Rep K p' H' v d -> W v H') : W v H' := by
  obtain ⟨cs2,hk,q⟩ := h
  rcases hk with rfl | ⟨rfl,hd,hc⟩
  · exact w d _ v p'.bare H' q rfl ok.bare (C.mv Mv.bare rfl fun _ _ _ => rfl) x.bare (r.mv Mv.bare)
  · have hc : (cs'.take cs.length).all (Cell.rbel cs.length) = true := by
      rcases hc with hc | hc
      · exact hc
      · rw [hc]
        exact C0.rb
    obtain ⟨more,e,hm⟩ := x.cell
    have et : p'.cell.take cs.length = p.cell := by rw [e,<- hp]; exact List.take_left' rfl
    refine w d _ v (p'.cut cs.length) H' q rfl ⟨?_,(fun _ _ _ e _ => (nomatch e)),(fun _ _ e => (nomatch e)),fun a h hm => ok.rc a h (List.mem_of_mem_take hm),(fun _ _ _ e => (nomatch e))⟩ ⟨?_,fun n c a e1 e2 => ?_⟩ ⟨⟨[],?_,by simp⟩,x.keep,(fun _ _ e => (nomatch e)),x.rsv,x.dom⟩ (r.cut hd)
    · exact ok.nd.sublist (List.take_sublist _ _)
    · show (p'.cell.take cs.length).length = (cs'.take cs.length).length
      rw [List.length_take,List.length_take,C.len]
    · have e2 : (p'.cell.take cs.length)[n]? = some a := e2
      have hn : n < cs.length := by
        have := (List.getElem?_eq_some_iff.mp e1).1
        rw [List.length_take] at this
        omega
      rw [List.getElem?_take_of_lt hn] at e1 e2
      have hb : Cell.rbel cs.length c = true := List.all_eq_true.mp hc c (by
        refine List.mem_of_getElem? (i := n) ?_
        rw [List.getElem?_take_of_lt hn]
        exact e1)
      exact (C.at_ n c a e1 e2).cut hb
    · show p'.cell.take cs.length = p.cell ++ []
      rw [List.append_nil]
      exact et
theorem Reps.slots {L : List Slot} {σ : L2.St} : ∀ {vs : List V} {ds : List D} (m : Nat),Reps K p H vs ds -> ∀ i s,(ds.map Slot.val ++ List.replicate m .no)[i]? = some s -> SlotOk K p H (vs.map some ++ List.replicate m none) i s := by
  intro vs ds m r i s e
  by_cases hi : i < ds.length
  · rw [List.getElem?_append_left (by rw [List.length_map]; exact hi),List.getElem?_map,List.getElem?_eq_getElem hi] at e
    cases e
    obtain ⟨w,hw,rw'⟩ := r.get (List.getElem?_eq_getElem hi)
    refine ⟨w,?_,rw'⟩
    rw [List.getElem?_append_left (by rw [List.length_map,r.len]; exact hi),List.getElem?_map,hw]
    rfl
  · rw [List.getElem?_append_right (by rw [List.length_map]; omega)] at e
    have : s = .no := by
      have := List.mem_of_getElem? e
      exact (List.mem_replicate.mp this).2
    subst this
    trivial
theorem lUa {fn : Fn} {vs : List V} {ds : List D} (ho : p.own = fun _ => none) (ok : p.Ok) (C : CsOk K p H cs) (rs : ∀ a,p.rsv a -> Bx (H a)) (r : Reps K p H vs ds) :
    Rl K p (start fn.N vs) H (ds.map .val ++ List.replicate (fn.N.length - ds.length) .no) cs := by
  refine ⟨ok,?_,fun i s e => ?_,fun i a e => ?_,C,rs⟩
  · unfold L2.start
    rw [List.length_append,List.length_append,List.length_map,List.length_map,List.length_replicate,List.length_replicate,r.len]
  · unfold L2.start
    rw [r.len]
    exact Reps.slots (L := []) (σ := []) _ r i s e
  · rw [ho] at e
    cases e
end
theorem a8a {T : Tab} {Tb : Sp.Tb} {f : Str} {fn : Fn} {k : Nat} {X : Cx} {body : List Stmt} (hc : T.code f = some fn) (hnp : fn.np <= fn.N.length) (gs : Gs X fn.N Tb (Gf T k) T.con) (hk : chkSs Tb fn.N fn.body X.env.scope body = true) {vs : List V} {H : Hp} {Q : VK} (h : spG X.K (Gf T (k + 1)) f vs H Q) :
    ∃ t,PSs X body t /\ t { nx := fun _ H' => Q .non H',rt := Q } (start fn.N vs) H := by
  refine ⟨_,okSs (bG T k) fn.body X body gs hk,?_⟩
  obtain ⟨p,ds,cs,ho,ok,C,rs,r,q⟩ := h
  unfold Gf at q
  rw [hc] at q
  obtain ⟨hl,q⟩ := q
  refine ⟨p,_,cs,_,lUa ho ok C rs r,by rw [List.length_append,List.length_map,List.length_replicate]; omega,⟨fun L cs1 p' σ' H' w R l x => ?_,fun d cs1 v p' H' w ok' C' x r' => ?_,fun L cs1 p' σ' H' w R l x => (show False from w).elim,fun L cs1 p' σ' H' w R l x => (show False from w).elim⟩,q⟩
  · exact mL (Q := fun d cs' => ∀ v p' H',p'.own = (fun _ => none) -> p'.Ok -> CsOk X.K p' H' cs' -> Ext p p' H H' -> Rep X.K p' H' v d -> Q v H') (d := .non) C w C.len R.ok R.cells x .non fun d cs' v p' H' q ho ok C x r => q v p' H' ho ok C x r
  · exact mL (Q := fun d cs' => ∀ v p' H',p'.own = (fun _ => none) -> p'.Ok -> CsOk X.K p' H' cs' -> Ext p p' H H' -> Rep X.K p' H' v d -> Q v H') (d := d) C w C.len ok' C' x r' fun d cs' v p' H' q ho ok C x r => q v p' H' ho ok C x r
theorem fn_g {P : Program} {w : World} {K : PySem.W.Frag} {mg : Str -> Option Value} {base : Heap} {k : Nat} {f : Addr} {name qual : Str} {params : Arguments} {body : List Stmt} {scope : Scope} {dV kV doc pm cdv ct oc : Value} {an od : Option Addr}
    {osl : Array (Option Value)} {N ps : List Str} {sp : Sp0} (lk : K.lookup f = some ⟨oc,od,.func (PySem.W.fnOf name qual params body scope dV kV doc pm an cdv ct),osl⟩) (hcd : PySem.W.codeIn K cdv qual = true) (S : FnScope N ps scope)
    (hbody : ∀ (A : Around) (outer : List Env) (s : Shared) (H : Hp) (vs : List V) (Q : VK),Room k (A.deeper (envOfC qual scope s.heap.objs.size f cdv)) -> A.guards = some [] -> sp vs H Q ->
      ∃ t,PSs (cxOf L2.CX0 P w K mg base N qual scope f cdv A outer s H L2.E0) body t /\ t { nx := fun _ H' => Q .non H',rt := Q } (start N vs) H) :
    FnG P w K mg base (k + 1) f (PySem.W.fnOf name qual params body scope dV kV doc pm an cdv ct) ps sp := by
  refine ⟨fun A outer s H args us vs Q hr hgd e0 hb r hl hsp => ?_⟩
  have KX : K.In s.heap := e0.mod.kin.keeps fun b o e => (e0.bs b o e).1
  have lim : s.heap.NoLimit := e0.mod.nolimit.keeps fun b o e => (e0.bs b o e).1
  have hkind : ∀ y ∈ ps.zip us,scope.names.lookup y.1 = some .local \/ (scope.names.lookup y.1 = some .cell /\ ((cellsFrom (s.heap.objs.size + 1) scope.names []).lookup y.1).isSome = true) := fun ⟨n,v⟩ hy => by
    rcases S.par n (List.of_mem_zip hy).1 with q | q
    · exact .inl q
    · exact .inr ⟨q,PySem.W.cellsFrom_some _ _ _ (.inl q)⟩
  refine codeAny_call_function hr.depth (KX _ _ lk) rfl S.co S.gen rfl (PySem.W.codeRec_of KX hcd) (hb _ _ _ _ ?_)
  refine wpAny_newFunctionEnv_cells S.kind hkind fun env he s1 x => ?_
  subst he
  refine ⟨lim.keeps x.toInCall.keep,codeAny_func ?_⟩
  obtain ⟨t,ht,hq⟩ := hbody A outer s H vs Q (hr.deeper _) hgd hsp
  have I : Inv (cxOf L2.CX0 P w K mg base N qual scope f cdv A outer s H L2.E0) [] (start N vs) H s1 := inv_start S hr.hd e0 hl r x
  refine wpAny_mono (ht.run [] s1 (start N vs) H _ I hq) (fun fl s' hs => ?_) fun e s' hs => hs
  have fin : ∀ {σ' : L2.St} {H' : Hp} {v : V} {u : Value},Inv (cxOf L2.CX0 P w K mg base N qual scope f cdv A outer s H L2.E0) [] σ' H' s' -> RelV v u -> Q v H' -> L2.CE outer P w H s Q u s' :=
    fun {σ' H' v u} J rv q => ⟨v,H',J.os,J.bare,J.base,J.hok,rv,q⟩
  cases fl with
  | ret u =>
    obtain ⟨v,σ',H',J,rv,q⟩ := hs
    exact fin J rv q
  | next =>
    obtain ⟨σ',H',J,q⟩ := hs
    exact fin (v := V.non) (u := Value.none) J rfl q
  | brk =>
    obtain ⟨_,_,_,q⟩ := hs
    exact False.elim q
  | cont =>
    obtain ⟨_,_,_,q⟩ := hs
    exact False.elim q
structure Fd where
  name : Str
  addr : Addr
  st : Stmt
  ps : List Str
  nm : Str
  cl : Option (Str × Str)
structure FdOk (K : PySem.W.Frag) (mg : Str -> Option Value) (Tb : Sp.Tb) (T : Tab) (F : Fd) : Prop where
  fn : ∃ fd,Fun K F.nm F.name F.st F.addr fd
  glob : F.cl = none -> mg F.name = some (.ref F.addr)
  code : ∃ c,T.code F.name = some c /\ FnScope c.N F.ps (defScope F.st) /\ c.np = F.ps.length /\ c.np <= c.N.length /\ chkSs Tb c.N c.body (defScope F.st) (defBody F.st) = true
  bind : ∀ (kV doc pm : Value) (an : Option Addr) (cdv ct : Value) (us : List Value),us.length = F.ps.length -> bindArgs (PySem.W.fnOf F.nm F.name (defArgs F.st) (defBody F.st) (defScope F.st) .none kV doc pm an cdv ct) ⟨us,[]⟩ = pure (F.ps.zip us)
structure TabOk (w : World) (K : PySem.W.Frag) (mg : Str -> Option Value) (Tb : Sp.Tb) (T : Tab) (Fs : List Fd) : Prop where
  fds : ∀ F ∈ Fs,FdOk K mg Tb T F
  fns : ∀ f n,Tb.fns.lookup f = some n -> ∃ F ∈ Fs,F.name = f /\ F.ps.length = n /\ F.cl = none
  blt : ∀ x,Tb.blt.contains x = true -> mg x = none
  con : ∀ x,Tb.con.contains x = true -> ∃ d v u,T.con x = some d /\ mg x = some u /\ RelV v u /\ ∀ p H,Rep K p H v d
  cls : ∀ c q n,Tb.cls.lookup c = some (q,n) -> ∃ C,CAt K c C /\ mg c = some (.ref C) /\ ∃ F ∈ Fs,F.name = q /\ F.ps.length = n + 1 /\ Mk K C F.addr
  mth : ∀ c m q n,Tb.mth.lookup (c,m) = some (q,n) -> ∃ C,CAt K c C /\ ∃ F ∈ Fs,F.name = q /\ F.ps.length = n + 1 /\ Meth K C m F.addr
  flds : ∀ c f,Tb.fds.contains (c,f) = true -> ∃ C,CAt K c C /\ NoAttr K C f
  oth : ∀ x,Tb.oth.contains x = true -> ∃ a,mg x = some (.ref a) /\ OthK K a
  kds : ∀ x,Tb.kds.contains x = true -> ∃ a kvs,mg x = some (.ref a) /\ T.con x = some (.dct kvs) /\ KdK w K a kvs
  kts : ∀ x,Tb.kts.contains x = true -> ∃ a ss,mg x = some (.ref a) /\ T.con x = some (D.tup (ss.map D.str)) /\ KtK K a ss
theorem hW {P : Program} {w : World} {K : PySem.W.Frag} {mg : Str -> Option Value} {base : Heap} {Tb : Sp.Tb} {T : Tab} {Fs : List Fd} (t : TabOk w K mg Tb T Fs) :
    ∀ (k : Nat) (F : Fd),F ∈ Fs -> ∃ fd,Binds K fd F.ps [] /\ PySem.W.keepIn K (.ref F.addr) = true /\ FnG P w K mg base (2 * k) F.addr fd F.ps (spG K (Gf T k) F.name)
  | 0,F,hF => by
    obtain ⟨fd,hfn⟩ := (t.fds F hF).fn
    exact ⟨fd,hfn.binds (t.fds F hF).bind,hfn.kp,⟨fun A outer s H args us vs Q hr hg e0 hb r hl ⟨p,ds,cs,_,_,_,_,_,q⟩ => q.elim⟩⟩
  | k + 1,F,hF => by
    obtain ⟨fd,hfn⟩ := (t.fds F hF).fn
    obtain ⟨c,hc,S,hnp,hle,hk⟩ := (t.fds F hF).code
    refine ⟨fd,hfn.binds (t.fds F hF).bind,hfn.kp,?_⟩
    obtain ⟨oc,od,kV,doc,pm,an,cdv,ct,osl,rfl,lk,hcd⟩ := hfn.ex
    refine fn_g (k := 2 * k + 1) (N := c.N) lk hcd S fun A outer s H vs Q hr hgd hsp => ?_
    refine a8a hc hle ⟨⟨rfl,S.nd,rfl,hgd,(by
      have := hr.un
      show (A.deeper _).units + 100 < cLine
      omega),bG T k,t.kds,t.kts,fun f n e => ?_,t.blt,t.con,fun c q n e => ?_,fun c m q n e => ?_,t.flds,t.oth⟩,⟨rfl,S.nd,rfl,fun x h => h,fun x h => ⟨h,rfl⟩⟩,passes_of (K := fun _ _ => False) (E₁ := fun _ _ => False) rfl⟩ hk hsp
    · obtain ⟨F',hF',e1,e2,e3⟩ := t.fns f n e
      subst e1
      obtain ⟨fd',hb',hk',G'⟩ := hW t k F' hF'
      exact ⟨2 * k,F'.addr,fd',F'.ps,hr.mono (by omega),(t.fds F' hF').glob e3,hk',hb',e2,G'⟩
    · obtain ⟨C,h1,h2,F',hF',e1,e2,e3⟩ := t.cls c q n e
      subst e1
      obtain ⟨fd',hb',hk',G'⟩ := hW t k F' hF'
      exact ⟨C,2 * k,F'.addr,fd',F'.ps,h1,h2,hr,e3,hb',e2,G'⟩
    · obtain ⟨C,h1,F',hF',e1,e2,e3⟩ := t.mth c m q n e
      subst e1
      obtain ⟨fd',hb',hk',G'⟩ := hW t k F' hF'
      exact ⟨C,2 * k,F'.addr,fd',F'.ps,h1,e3,hr.mono (by omega),hb',e2,G'⟩
theorem n4 {K : PySem.W.Frag} {p : Pm} {H : Hp} : ∀ ns : List Int,Reps K p H (ns.map V.int) (ns.map D.int)
  | [] => .nil
  | n :: r => .cons (.int n) (n4 r)
theorem fIa {P : Program} {w : World} {K : PySem.W.Frag} {mg mb : Str -> Option Value} {k : Nat} {fa a : Addr} {x : Str} {G : SF} {f : Str} {s₁ : Shared} {vs : List Value} {ns : List Int}
    (KX : K.In s₁.heap) (hns : s₁.heap.Ns mainGlobals mg) (hb : s₁.heap.Ns builtinsNs mb) (hbb : ∀ x : Str,x ≠ "__name__" -> mb x = bootBuiltins x) (hlim : s₁.heap.NoLimit) (hg : s₁.gens = #[])
    (ha : s₁.heap.get? a = some { cls := .type "list",data := .seq vs.toArray }) (hi : IntsAre vs ns) (hl : ns.length <= sizeLine) (hr : Room k callerA)
    (F : ∀ base : Heap,∃ fd,Binds K fd [x] [] /\ FnG P w K mg base k fa fd [x] (spG K G f))
    (hG : SFm G) (hsp : G f [.lst (ns.map D.int)] [] fun d _ => d = .bl true) :
    codeAny (model P w) callerA (.call (.ref fa) ⟨[.ref a],[]⟩) (fun r s' => r = .ok (.ret (.bool true)) /\ OldK s₁.heap s'.heap /\ s'.os = s₁.os /\ AllBare s'.gens) s₁ := by
  have rv := vals_ints hi
  have lenV := hi.length
  have core : ∀ H : Hp,(∀ b,H b = none \/ ∃ o xs,H b = some (.frz o (.lst xs))) -> ((∃ o,H a = some (.frz o (.lst (ns.map V.int)))) \/ StL K a (ns.map V.int)) -> HOk P w H s₁.heap -> (∀ b,H b ≠ none -> b = a) -> (H a ≠ none -> K.lookup a = none) ->
      codeAny (model P w) callerA (.call (.ref fa) ⟨[.ref a],[]⟩) (fun r s' => r = .ok (.ret (.bool true)) /\ OldK s₁.heap s'.heap /\ s'.os = s₁.os /\ AllBare s'.gens) s₁ := by
    intro H hO hS hok hA hK
    have base_of : ∀ {b : Addr} {o : Obj},s₁.heap.get? b = some o -> H b = none -> (hidT s₁.heap H).get? b = some o := fun e n => hidT_get e n
    have noA : ∀ {b : Addr} {o : Obj} {es : Array DictEntry} {ep : Nat},s₁.heap.get? b = some o -> o.data = .dict es ep -> H b = none := fun {b o es ep} e d => by
      cases q : H b with
      | none => rfl
      | some u =>
        have e' : b = a := hA b (by rw [q]; simp)
        subst e'
        rw [ha] at e; cases e
        have d' : Data.seq vs.toArray _ = Data.dict es ep := d
        cases d'
    have nsK : ∀ {b : Addr} {m : Str -> Option Value},s₁.heap.Ns b m -> (hidT s₁.heap H).Ns b m := fun {b m} ⟨o,es,ep,e,d,r⟩ => ⟨o,es,ep,base_of e (noA e d),d,r⟩
    have hKb : K.In (hidT s₁.heap H) := fun b o e => base_of (KX b o e) (by
      cases q : H b with
      | none => rfl
      | some u =>
        have e' : b = a := hA b (by rw [q]; simp)
        subst e'
        rw [hK (by rw [q]; simp)] at e; cases e)
    have hM : Mod K mg (hidT s₁.heap H) := ⟨hKb,nsK hns,⟨mb,nsK hb,hbb⟩,let ⟨mc,h1,h2⟩ := hlim; ⟨mc,nsK h1,h2⟩⟩
    have e0 : Env0 P w K mg (hidT s₁.heap H) callerA [] s₁ H := ⟨rfl,hM,fun b o e => of_hidT e,Nat.le_of_eq (hidT_size _ _),trivial,fun b hb => absurd (show b ∈ ([] : List Addr) from hb) (by simp),hok,.of_eq hg⟩
    have sp : spG K G f [.ref a] H fun v _ => v = .bl true := by
      refine ⟨⟨[],fun _ => none,fun _ => False⟩,[.lst (ns.map D.int)],[],rfl,⟨List.nodup_nil,(fun _ _ _ e _ => (nomatch e)),(fun _ _ e => (nomatch e)),(fun _ e => e.elim),(fun _ e => e.elim)⟩,⟨rfl,fun n c a e1 e2 => by simp at e1⟩,(fun _ e => e.elim),.cons (.lst ?_ (n4 ns)) .nil,hG _ _ _ _ _ (fun d cs' e v p' H' _ _ _ _ r => by subst e; cases r; rfl) hsp⟩
      rcases hS with ⟨o,hS⟩ | hS
      · exact .inl ⟨.inr ⟨o,hS⟩,fun q => by rcases q with q | ⟨i,q⟩ | q <;> cases q⟩
      · exact .inr hS
    obtain ⟨fd,hbd,hF⟩ := F (hidT s₁.heap H)
    refine codeAny_mono (hF.run callerA [] s₁ H ⟨[.ref a],[]⟩ [.ref a] [.ref a] _ hr rfl e0 (hbd s₁ [.ref a] KX rfl) (.cons rfl .nil) rfl sp) fun r s' h => ?_
    cases r with
    | error e => exact False.elim h
    | ok fl =>
      cases fl with
      | next => exact False.elim h
      | brk => exact False.elim h
      | cont => exact False.elim h
      | ret u =>
        obtain ⟨v,H',os,bare,un,hok',r',q⟩ := h
        have q' : v = .bl true := q
        subst q'
        obtain rfl : u = Value.bool true := r'
        refine ⟨rfl,OldK.of_keep fun b o e => ?_,os,bare⟩
        cases q : H b with
        | none => exact un.keep b o e q (by intro z; exact absurd (show b ∈ ([] : List Addr) from z) (by simp)) (by simp)
        | some u =>
          rcases hO b with z | ⟨ob,xs,z⟩
          · rw [q] at z; cases z
          · have z2 := un.frzs b ob _ z
            obtain ⟨e1,_⟩ := hok b _ z
            obtain ⟨e2,_⟩ := hok' b _ z2
            rw [e] at e1; cases e1
            exact e2
  cases hk : K.lookup a with
  | some o =>
    have e := KX a o hk
    rw [ha] at e
    cases e
    exact core (fun _ => none) (fun _ => .inl rfl) (.inr ⟨vs,_,hk,by rw [lenV]; exact hl,rv⟩) (fun b u z => by have z' : (none : Option HO) = some u := z; cases z') (fun b z => absurd rfl z) fun z => absurd rfl z
  | none =>
    refine core (fun b => if b = a then some (.frz { cls := .type "list",data := .seq vs.toArray } (.lst (ns.map V.int))) else none) (fun b => ?_) (.inl ⟨{ cls := .type "list",data := .seq vs.toArray },if_pos rfl⟩) (fun b u z => ?_) (fun b z => ?_) fun _ => hk
    · by_cases hb : b = a
      · exact .inr ⟨_,_,if_pos hb⟩
      · exact .inl (if_neg hb)
    · by_cases hb : b = a
      · have z' := (if_pos hb).symm.trans z
        cases z'
        subst hb
        exact ⟨ha,by rw [List.length_map]; exact hl,vs,_,rv,ha⟩
      · have z' := (if_neg hb).symm.trans z
        cases z'
    · by_cases hb : b = a
      · exact hb
      · exact absurd (if_neg hb) z
structure Df where
  name : Str
  st : Stmt
  ps : List Str
  nm : Str := name
  cl : Option (Str × Str) := none
def AllP {α : Type} (P : α -> Prop) : List α -> Prop
  | [] => True
  | x :: r => P x /\ AllP P r
theorem AllP.mem {α : Type} {P : α -> Prop} : ∀ {l : List α},AllP P l -> ∀ x ∈ l,P x
  | y :: r,⟨h,t⟩,x,hx => by
    rcases List.mem_cons.mp hx with rfl | hx
    · exact h
    · exact AllP.mem t x hx
def BindOk (d : Df) : Prop := ∀ (kV doc pm : Value) (an : Option Addr) (cdv ct : Value) (us : List Value),us.length = d.ps.length -> bindArgs (PySem.W.fnOf d.nm d.name (defArgs d.st) (defBody d.st) (defScope d.st) .none kV doc pm an cdv ct) ⟨us,[]⟩ = pure (d.ps.zip us)
def nsAddr (K : PySem.W.Frag) (x : Str) : Addr := match PySem.W.nsIn K mainGlobals x with
  | some (some (.ref f)) => f
  | _ => 0
def DefAt (K : PySem.W.Frag) (d : Df) : Prop := match d.cl with
  | none => ∃ f fd,PySem.W.nsIn K mainGlobals d.name = some (some (.ref f)) /\ Fun K d.nm d.name d.st f fd
  | some (c,m) => ∃ C f fd,PySem.W.nsIn K mainGlobals c = some (some (.ref C)) /\ PySem.W.findIn K (.ref C) m = some (some (.ref f)) /\ PySem.W.isFn K (.ref f) = true /\ Fun K d.nm d.name d.st f fd
def ClAt (K : PySem.W.Frag) (c : Str) : Prop := ∃ C,PySem.W.nsIn K mainGlobals c = some (some (.ref C)) /\ Cls K C /\ PySem.W.makesIn K C = true /\ PySem.W.keepIn K (.ref C) = true
def FlAt (K : PySem.W.Frag) (e : Str × Str) : Prop := ∃ C,PySem.W.nsIn K mainGlobals e.1 = some (some (.ref C)) /\ NoAttr K C e.2
def dfAddr (K : PySem.W.Frag) (d : Df) : Addr := match d.cl with
  | none => nsAddr K d.name
  | some (c,m) => match PySem.W.findIn K (.ref (nsAddr K c)) m with
    | some (some (.ref f)) => f
    | _ => 0
theorem def_mk {K : PySem.W.Frag} {d : Df} {f : Addr} {oc : Value} {od an : Option Addr} {osl : Array (Option Value)} {kV doc pm cdv ct : Value} (e : d.cl = none) (a : PySem.W.nsIn K mainGlobals d.name = some (some (.ref f))) (l : K.lookup f = some ⟨oc,od,.func (PySem.W.fnOf d.nm d.name (defArgs d.st) (defBody d.st) (defScope d.st) .none kV doc pm an cdv ct),osl⟩)
    (c : PySem.W.codeIn K cdv d.name = true) (k : PySem.W.keepIn K (.ref f) = true) : DefAt K d := by
  unfold DefAt
  rw [e]
  exact ⟨f,_,a,fun_mk l c k⟩
def scopeB (N P : List Str) (sc : Scope) : Bool := isFn sc && !sc.isCoroutine && !sc.isGenerator && decide N.Nodup && decide (N.take P.length = P) && P.all (fun x => locB sc x) && sc.names.all fun y => match y.2 with
  | .free => false
  | _ => true
theorem lJa {N P : List Str} {sc : Scope} (h : scopeB N P sc = true) : FnScope N P sc := by
  unfold scopeB at h
  simp only [Bool.and_eq_true] at h
  obtain ⟨⟨⟨⟨⟨⟨h1,h2⟩,h3⟩,h4⟩,h5⟩,h6⟩,h7⟩ := h
  refine ⟨dN h1,aY h2,aY h3,of_decide_eq_true h4,of_decide_eq_true h5,fun x hx => g8 (List.all_eq_true.mp h6 x hx),fun y hy e => ?_⟩
  have := List.all_eq_true.mp h7 y hy
  rw [e] at this
  cases this
def chkDf (Tb : Sp.Tb) (T : Tab) (d : Df) : Bool := match T.code d.name with
  | some c => scopeB c.N d.ps (defScope d.st) && decide (c.np = d.ps.length) && decide (c.np <= c.N.length) && chkSs Tb c.N c.body (defScope d.st) (defBody d.st)
  | none => false
def fnsB (Tb : Sp.Tb) (ds : List Df) : Bool := (Tb.fns.all fun p => ds.any fun d => decide (d.name = p.1) && decide (d.ps.length = p.2) && decide (d.cl = none)) &&
  (Tb.cls.all fun p => ds.any fun d => decide (d.name = p.2.1) && decide (d.ps.length = p.2.2 + 1) && decide (d.cl = some (p.1,("__init__" : Str)))) &&
  (Tb.mth.all fun p => (ds.any fun d => decide (d.name = p.2.1) && decide (d.ps.length = p.2.2 + 1) && decide (d.cl = some p.1)) && (Tb.cls.map (·.1)).contains p.1.1) &&
  (Tb.fds.all fun p => (Tb.cls.map (·.1)).contains p.1)
theorem lookup_mem {κ α : Type} [BEq κ] [LawfulBEq κ] : ∀ {l : List (κ × α)} {x : κ} {a : α},l.lookup x = some a -> (x,a) ∈ l
  | [],x,a,h => by simp at h
  | (y,b) :: r,x,a,h => by
    rw [List.lookup_cons] at h
    split at h
    · rename_i e
      cases h
      rw [eq_of_beq e]
      exact List.mem_cons_self ..
    · exact List.mem_cons_of_mem _ (lookup_mem h)
def TabW (w : World) (T : Tab) (K : PySem.W.Frag) (Tb : Sp.Tb) : Prop := AllP (ClAt K) (Tb.cls.map (·.1)) /\ AllP (FlAt K) Tb.fds /\ AllP (fun x => ∃ a,PySem.W.nsIn K mainGlobals x = some (some (.ref a)) /\ OthK K a) Tb.oth /\ AllP (fun x => ∃ a kvs,PySem.W.nsIn K mainGlobals x = some (some (.ref a)) /\ T.con x = some (.dct kvs) /\ KdK w K a kvs) Tb.kds /\ AllP (fun x => ∃ a ss,PySem.W.nsIn K mainGlobals x = some (some (.ref a)) /\ T.con x = some (D.tup (ss.map D.str)) /\ KtK K a ss) Tb.kts
theorem l5a {w : World} {K : PySem.W.Frag} {mg : Str -> Option Value} {h : Heap} {Tb : Sp.Tb} {T : Tab} {ds : List Df} (X : K.In h) (G : h.Ns mainGlobals mg) (D : AllP (DefAt K) ds) (B : AllP BindOk ds) (C : ds.all (chkDf Tb T) = true) (N : fnsB Tb ds = true)
    (Z : AllP (fun x => PySem.W.nsIn K mainGlobals x = some none) Tb.blt) (Y : AllP (fun x => ∃ d v u,T.con x = some d /\ PySem.W.nsIn K mainGlobals x = some (some u) /\ RelV v u /\ ∀ p H,Rep K p H v d) Tb.con) (W : TabW w T K Tb) :
    TabOk w K mg Tb T (ds.map fun d => ⟨d.name,dfAddr K d,d.st,d.ps,d.nm,d.cl⟩) := by
  unfold fnsB at N
  simp only [Bool.and_eq_true] at N
  obtain ⟨⟨⟨N1,N2⟩,N3⟩,N4⟩ := N
  have ns : ∀ {x : Str} {f : Addr},PySem.W.nsIn K mainGlobals x = some (some (.ref f)) -> nsAddr K x = f := fun {x f} a => by unfold nsAddr; rw [a]
  have clOf : ∀ {c : Str},(Tb.cls.map (·.1)).contains c = true -> ClAt K c := fun {c} hc => W.1.mem c (by simpa using hc)
  refine ⟨fun F hF => ?_,fun f n e => ?_,fun x hx => ?_,fun x hx => ?_,fun c q n e => ?_,fun c m q n e => ?_,fun c f e => ?_,fun x hx => ?_,fun x hx => ?_,fun x hx => ?_⟩
  · obtain ⟨d,hd,rfl⟩ := List.mem_map.mp hF
    have hD := D.mem d hd
    unfold DefAt at hD
    have hfn : (∃ fd,Fun K d.nm d.name d.st (dfAddr K d) fd) /\ (d.cl = none -> mg d.name = some (.ref (dfAddr K d))) := by
      unfold dfAddr
      split at hD
      · rename_i ec
        obtain ⟨f,fd,a,fn⟩ := hD
        rw [ec]
        refine ⟨⟨fd,?_⟩,fun _ => ?_⟩
        · show Fun K d.nm d.name d.st (nsAddr K d.name) fd
          rw [ns a]; exact fn
        · show mg d.name = some (.ref (nsAddr K d.name))
          rw [ns a]; exact PySem.W.mg_of X G a
      · rename_i c m ec
        obtain ⟨C,f,fd,a,b,_,fn⟩ := hD
        rw [ec]
        refine ⟨⟨fd,?_⟩,fun z => by cases z⟩
        simp only [ns a,b]
        exact fn
    refine ⟨hfn.1,hfn.2,?_,B.mem d hd⟩
    have c := List.all_eq_true.mp C d hd
    unfold chkDf at c
    split at c
    · rename_i c0 e0
      simp only [Bool.and_eq_true] at c
      obtain ⟨⟨⟨c1,c2⟩,c3⟩,c4⟩ := c
      exact ⟨c0,e0,lJa c1,of_decide_eq_true c2,of_decide_eq_true c3,c4⟩
    · cases c
  · have := List.all_eq_true.mp N1 _ (lookup_mem e)
    obtain ⟨d,hd,q⟩ := List.any_eq_true.mp this
    simp only [Bool.and_eq_true] at q
    exact ⟨_,List.mem_map.mpr ⟨d,hd,rfl⟩,of_decide_eq_true q.1.1,of_decide_eq_true q.1.2,of_decide_eq_true q.2⟩
  · have hx : x ∈ Tb.blt := by simpa using hx
    exact PySem.W.mg_none_of X G (Z.mem x hx)
  · have hx : x ∈ Tb.con := by simpa using hx
    obtain ⟨d,v,u,h1,h2,h3,h4⟩ := Y.mem x hx
    exact ⟨d,v,u,h1,PySem.W.mg_of X G h2,h3,h4⟩
  · have hm := lookup_mem e
    have := List.all_eq_true.mp N2 _ hm
    obtain ⟨d,hd,q0⟩ := List.any_eq_true.mp this
    simp only [Bool.and_eq_true] at q0
    obtain ⟨⟨q1,q2⟩,q3⟩ := q0
    have q3 := of_decide_eq_true q3
    obtain ⟨C,a,hc,hmk,hk⟩ := W.1.mem c (List.mem_map.mpr ⟨_,hm,rfl⟩)
    have hD := D.mem d hd
    unfold DefAt at hD
    rw [q3] at hD
    obtain ⟨C',f,fd,a',b,i,fn⟩ := hD
    rw [a] at a'
    cases a'
    have ea : dfAddr K d = f := by
      unfold dfAddr
      rw [q3]
      simp only [ns a,b]
    exact ⟨C,⟨a,hc⟩,PySem.W.mg_of X G a,_,List.mem_map.mpr ⟨d,hd,rfl⟩,of_decide_eq_true q1,of_decide_eq_true q2,⟨hmk,by show PySem.W.findIn K _ _ = some (some (.ref (dfAddr K d))); rw [ea]; exact b,by show PySem.W.isFn K (.ref (dfAddr K d)) = true; rw [ea]; exact i,hk⟩⟩
  · have hm := lookup_mem e
    have := List.all_eq_true.mp N3 _ hm
    rw [Bool.and_eq_true] at this
    obtain ⟨q0,q4⟩ := this
    obtain ⟨d,hd,q0⟩ := List.any_eq_true.mp q0
    simp only [Bool.and_eq_true] at q0
    obtain ⟨⟨q1,q2⟩,q3⟩ := q0
    have q3 := of_decide_eq_true q3
    obtain ⟨C,a,hc,hmk,hk⟩ := clOf q4
    have hD := D.mem d hd
    unfold DefAt at hD
    rw [q3] at hD
    obtain ⟨C',f,fd,a',b,i,fn⟩ := hD
    rw [a] at a'
    cases a'
    have ea : dfAddr K d = f := by
      unfold dfAddr
      rw [q3]
      simp only [ns a,b]
    exact ⟨C,⟨a,hc⟩,_,List.mem_map.mpr ⟨d,hd,rfl⟩,of_decide_eq_true q1,of_decide_eq_true q2,⟨by show PySem.W.findIn K _ _ = some (some (.ref (dfAddr K d))); rw [ea]; exact b,by show PySem.W.isFn K (.ref (dfAddr K d)) = true; rw [ea]; exact i,by show PySem.W.keepIn K (.ref (dfAddr K d)) = true; rw [ea]; exact fn.kp⟩⟩
  · have hx : (c,f) ∈ Tb.fds := by simpa using e
    obtain ⟨C,a,hn⟩ := W.2.1.mem _ hx
    obtain ⟨C',a',hc,_,_⟩ := clOf (List.all_eq_true.mp N4 _ hx)
    have a : PySem.W.nsIn K mainGlobals c = some (some (.ref C)) := a
    rw [a] at a'
    cases a'
    exact ⟨C,⟨a,hc⟩,hn⟩
  · have hx : x ∈ Tb.oth := by simpa using hx
    obtain ⟨a,h1,h2⟩ := W.2.2.1.mem x hx
    exact ⟨a,PySem.W.mg_of X G h1,h2⟩
  · have hx : x ∈ Tb.kds := by simpa using hx
    obtain ⟨a,kvs,h1,h2,h3⟩ := W.2.2.2.1.mem x hx
    exact ⟨a,kvs,PySem.W.mg_of X G h1,h2,h3⟩
  · have hx : x ∈ Tb.kts := by simpa using hx
    obtain ⟨a,ss,h1,h2,h3⟩ := W.2.2.2.2.mem x hx
    exact ⟨a,ss,PySem.W.mg_of X G h1,h2,h3⟩
theorem kd_mk {w : World} {K : PySem.W.Frag} {T : Tab} {x : Str} {a : Addr} {kvs : List (Key × D)} {es : Array DictEntry} {n : Nat} (t : T.con x = some (.dct kvs)) (h1 : PySem.W.nsIn K mainGlobals x = some (some (.ref a))) (h2 : K.lookup a = some ⟨.type "dict",none,.dict es n,#[]⟩) (h3 : KdEs w es.toList kvs) (h4 : (a == sysModules) = false) : ∃ a kvs,PySem.W.nsIn K mainGlobals x = some (some (.ref a)) /\ T.con x = some (.dct kvs) /\ KdK w K a kvs := ⟨a,kvs,h1,t,es,n,h2,h3,h4⟩
abbrev NoName (K : PySem.W.Frag) (x : Str) : Prop := PySem.W.nsIn K mainGlobals x = some none
theorem y_mk {K : PySem.W.Frag} {T : Tab} {x : Str} {i : Int} (t : T.con x = some (.int i)) (h : ∃ t,PySem.W.nsIn K mainGlobals x = some (some (.int i t))) : ∃ d v u,T.con x = some d /\ PySem.W.nsIn K mainGlobals x = some (some u) /\ RelV v u /\ ∀ p H,Rep K p H v d := h.elim fun u h => ⟨.int i,.int i,.int i u,t,h,⟨_,rfl⟩,fun _ _ => .int i⟩
theorem z_mk {K : PySem.W.Frag} {x : Str} (h : PySem.W.nsIn K mainGlobals x = some none) : NoName K x := h
theorem walk_ofG {l : PySem.W.OpenLaw} {n k : Nat} {q : Program} {loose : List Str} {XP : (Str -> Option Value) -> Heap -> Prop} {YP : World -> Heap -> Prop} {d : DefRec} {K : Params -> PySem.W.Frag} {x : Str} {Tb : Sp.Tb} {T : Tab} {ds : List Df}
    (hn : l.most = some n) (hn2 : n <= sizeLine) (hdf : d.params.defaults = []) (hr : Room (2 * k) callerA)
    (hY : ∀ (w : World) (h : Heap),YP w h -> (K w.params).In h)
    (B : AllP BindOk ds) (C : ds.all (chkDf Tb T) = true) (N : fnsB Tb ds = true) (hx : ∃ e ∈ ds,e.name = d.name /\ e.ps = [x] /\ e.cl = none)
    (F : ∀ (w : World),AllP (DefAt (K w.params)) ds /\ AllP (fun x => PySem.W.nsIn (K w.params) mainGlobals x = some none) Tb.blt /\ AllP (fun x => ∃ d v u,T.con x = some d /\ PySem.W.nsIn (K w.params) mainGlobals x = some (some u) /\ RelV v u /\ ∀ p H,Rep (K w.params) p H v d) Tb.con /\ TabW w T (K w.params) Tb)
    (hsp : ∀ ns : List Int,ns.length <= n -> Gf T k d.name [.lst (ns.map D.int)] [] fun d _ => d = .bl true) :
    PySem.W.WalkO q loose XP YP l.row.toRowW d [] (fun f vs => PySem.call f vs) := by
  refine Att.attach_call hn hdf fun w s₀ s₁ mg mb fa o pm cd doc a vs ns G Y ho hd hcd hmg hobj hints hlen hg => ?_
  have KX := hY w _ Y
  obtain ⟨F1,F2,F3,F4⟩ := F w
  have t := l5a KX G.T.g F1 B C N F2 F3 F4
  obtain ⟨e,he,e1,e2,e3⟩ := hx
  have hD := F1.mem e he
  unfold DefAt at hD
  rw [e3] at hD
  obtain ⟨f,fd,a1,_⟩ := hD
  have ea : dfAddr (K w.params) e = fa := by
    have m := PySem.W.mg_of KX G.T.g a1
    rw [e1,hmg] at m
    unfold dfAddr
    rw [e3]
    show nsAddr (K w.params) e.name = fa
    unfold nsAddr
    rw [a1]
    cases m
    rfl
  refine fIa (x := x) KX G.T.g G.T.b G.T.builtins G.T.nolimit hg hobj hints (Nat.le_trans hlen hn2) hr (fun base => ?_) (bG T k) (hsp ns hlen)
  obtain ⟨fd,hb,_,hF'⟩ := hW (P := l.prog) (w := w) (base := base) t k _ (List.mem_map.mpr ⟨e,he,rfl⟩)
  simp only [e1,e2] at hb hF'
  rw [<- e1,ea] at hF'
  rw [e1] at hF'
  exact ⟨fd,hb,hF'⟩
end Sp
set_option autoImplicit true
namespace Sp
open PySem PySem.Spec PyProof.Rows L2
section
variable {G : SF} {con : Str -> Option D}
theorem lC (I : Nat -> List D -> Cells -> Prop) {own : List Nat} {g : Tg} {t : Option SE} {e : SE} {st : Loc -> Cells -> Prop} (ht : ∀ f,t = some f -> SEm f) (he : SEm e) {Q : List D -> Cells -> Prop} : ∀ (xs : List D) (n : Nat) (acc : List D) (L : Loc) (cs : Cells),I n acc cs ->
    (∀ i x acc cs,xs[i]? = some x -> I (n + i) acc cs -> asg g x (wipeL own L) fun L1 => match t with
      | none => e L1 cs fun y cs2 => st L cs2 /\ I (n + i + 1) (acc ++ [y]) cs2
      | some f => f L1 cs fun d cs1 => tru (deref cs1 d) fun b => match b with
        | true => e L1 cs1 fun y cs2 => st L cs2 /\ I (n + i + 1) (acc ++ [y]) cs2
        | false => st L cs1 /\ I (n + i + 1) acc cs1) ->
    (∀ acc cs,I (n + xs.length) acc cs -> Q acc cs) -> compW own g t e st xs L cs fun ys cs2 => Q (acc ++ ys) cs2
  | [],n,acc,L,cs,h0,_,hd => by
    unfold compW
    show Q (acc ++ []) cs
    rw [List.append_nil]
    exact hd acc cs h0
  | x :: xs,n,acc,L,cs,h0,hs,hd => by
    unfold compW
    refine b4 g x _ _ _ (fun L1 q => ?_) (hs 0 x acc cs rfl h0)
    have again : ∀ acc2 cs2,I (n + 1) acc2 cs2 -> compW own g t e st xs L cs2 fun ys cs3 => Q (acc2 ++ ys) cs3 := fun acc2 cs2 h => lC I ht he xs (n + 1) acc2 L cs2 h (fun i y acc cs e' hi => by
      have := hs (i + 1) y acc cs (by simpa using e') (by rw [<- Nat.add_assoc,Nat.add_right_comm]; exact hi)
      rw [show n + (i + 1) + 1 = n + 1 + i + 1 by omega] at this
      exact this) (fun acc cs hI => hd acc cs (by rw [List.length_cons,show n + (xs.length + 1) = n + 1 + xs.length by omega]; exact hI))
    cases t with
    | none => exact he _ _ _ _ (fun y cs2 w => ⟨w.1,by
        have := again (acc ++ [y]) cs2 w.2
        simpa [List.append_assoc] using this⟩) q
    | some f =>
      refine ht f rfl _ _ _ _ (fun d cs1 w => aC (fun b u => ?_) w) q
      cases b with
      | true => exact he _ _ _ _ (fun y cs2 w => ⟨w.1,by
          have := again (acc ++ [y]) cs2 w.2
          simpa [List.append_assoc] using this⟩) u
      | false => exact ⟨u.1,again acc cs1 u.2⟩
theorem iY {own : List Nat} {g : Tg} {e : SE} {st : Loc -> Cells -> Prop} (he : SEm e) (φ : D -> D) {Q : List D -> Cells -> Prop} {xs : List D} {L : Loc} {cs : Cells} (hst : st L cs)
    (hs : ∀ x ∈ xs,asg g x (wipeL own L) fun L1 => e L1 cs fun y cs2 => y = φ x /\ cs2 = cs) (hd : Q (xs.map φ) cs) : compW own g none e st xs L cs Q := by
  have := lC (fun n acc cs2 => acc = (xs.take n).map φ /\ cs2 = cs) (t := none) (own := own) (g := g) (e := e) (st := st) (fun _ z => nomatch z) he (Q := Q) xs 0 [] L cs ⟨rfl,rfl⟩ (fun i x acc cs2 ex ⟨ha,hc⟩ => by
    subst ha hc
    refine b4 g x _ _ _ (fun L1 q => he _ _ _ _ (fun y cs3 ⟨h1,h2⟩ => ⟨by rw [h2]; exact hst,?_,h2⟩) q) (hs x (List.mem_of_getElem? ex))
    rw [h1,Nat.zero_add,List.take_add_one,ex,List.map_append]
    rfl) (fun acc cs2 ⟨ha,hc⟩ => by
    subst ha hc
    rw [Nat.zero_add,List.take_length]
    exact hd)
  simpa using this
end
theorem gf {T : Tab} {k : Nat} {f : Str} {fn : Fn} {ds : List D} {cs : Cells} {Q : D -> Cells -> Prop} (h : T.code f = some fn) (hl : ds.length = fn.np)
    (q : wpSs (Gf T k) T.con fn.body (ds.map .val ++ List.replicate (fn.N.length - ds.length) .no) cs { nx := fun _ cs1 => ∃ cs2,Kept cs .non cs1 cs2 /\ Q .non cs2,rt := fun d cs1 => ∃ cs2,Kept cs d cs1 cs2 /\ Q d cs2,bk := fun _ _ => False,ct := fun _ _ => False }) :
    Gf T (k + 1) f ds cs Q := by
  unfold Gf
  rw [h]
  exact ⟨hl,q⟩
theorem aL {n : Cells} {d : D} {cs : Cells} {Q : D -> Cells -> Prop} (q : Q d cs) : ∃ cs2,Kept n d cs cs2 /\ Q d cs2 := ⟨cs,.inl rfl,q⟩
section
variable {i j : Int} {b c : Bool} {x y : Str} {xs ys : List D} {d e f : D} {cs : Cells} {n : Nat} {k : D -> Prop} {kvs : List (Key × D)} {kvt : List (List Key × D)}
theorem cDa : binV .add (.int i) (.int j) = yes (.int (i + j)) := rfl
theorem eBa : binV .sub (.int i) (.int j) = yes (.int (i - j)) := rfl
theorem cLa : binV .band (.int i) (.int j) = yes (.int (Builtin.bitAnd i j)) := rfl
theorem cMa : binV .bor (.int i) (.int j) = yes (.int (Builtin.bitOr i j)) := rfl
theorem cNa : binV .bxor (.int i) (.int j) = yes (.int (Builtin.bitXor i j)) := rfl
theorem cFa : binV .add (.str x) (.str y) = some (x.length + y.length <= sizeLine,.str (x ++ y)) := rfl
theorem cEa : binV .add (.lst xs) (.lst ys) = some (xs.length + ys.length <= sizeLine,.lst (xs ++ ys)) := rfl
theorem cGa : binV .add (.tup xs) (.tup ys) = some (xs.length + ys.length <= sizeLine,.tup (xs ++ ys)) := rfl
theorem dPa : binV .mul (.int i) (.int j) = some (mulOk i j,.int (i * j)) := rfl
theorem dQa : binV .mul (.lst xs) (.int j) = some ((-(2 ^ 63) <= j /\ j < 2 ^ 63) /\ xs.length * j.toNat <= sizeLine,.lst (List.replicate j.toNat xs).flatten) := rfl
theorem dRa : binV .mul (.tup xs) (.int j) = some ((-(2 ^ 63) <= j /\ j < 2 ^ 63) /\ xs.length * j.toNat <= sizeLine,.tup (List.replicate j.toNat xs).flatten) := rfl
theorem cZa : binV .fdiv (.int i) (.int j) = some (divOk j,.int (i / j)) := rfl
theorem dOa : binV .mod (.int i) (.int j) = some (0 < j,.int (i % j)) := rfl
theorem d3a : binV .pow (.int i) (.int j) = some (0 <= j /\ j <= 1000000 /\ i.natAbs < 2 ^ 64,.int (i ^ j.toNat)) := rfl
theorem d4a : binV .shl (.int i) (.int j) = some (0 <= j /\ j <= 1000000 /\ i.natAbs < 2 ^ 2000,.int (i * 2 ^ j.toNat)) := rfl
theorem d5a : binV .shr (.int i) (.int j) = some (0 <= j,.int (i / 2 ^ j.toNat)) := rfl
theorem dMa : cmpV .lt (.int i) (.int j) = yes (decide (i < j)) := rfl
theorem dFa : cmpV .le (.int i) (.int j) = yes (decide (i <= j)) := rfl
theorem c1a : cmpV .gt (.int i) (.int j) = yes (decide (j < i)) := rfl
theorem c0a : cmpV .ge (.int i) (.int j) = yes (decide (j <= i)) := rfl
theorem cYa : cmpV .eq d e = eqV d e := rfl
theorem dTa : cmpV .ne d e = (eqV d e).map not := rfl
theorem c7a : cmpV .isin d e = inV d e := rfl
theorem dXa : cmpV .notin d e = (inV d e).map not := rfl
theorem c8a : cmpV .isn d .non = yes (isNon d) := rfl
theorem dYa : cmpV .notn d .non = yes (!isNon d) := rfl
theorem bC : truV (.bl b) = yes b := rfl
theorem eCa : truV (.int i) = yes (i != 0) := rfl
theorem eEa : truV .non = yes false := rfl
theorem eGa : truV (.tup xs) = yes (!xs.isEmpty) := rfl
theorem eDa : truV (.lst xs) = yes (!xs.isEmpty) := rfl
theorem eFa : truV (.str x) = some (x.length <= sizeLine,(x.length : Int) != 0) := rfl
theorem dGa : biV .len [.lst xs] = yes (.int xs.length) := rfl
theorem dIa : biV .len [.tup xs] = yes (.int xs.length) := rfl
theorem dHa : biV .len [.str x] = some (x.length <= sizeLine,.int x.length) := rfl
theorem cCa : biV .abs [.int i] = yes (.int (if i < 0 then -i else i)) := rfl
theorem ev_max2 : biV .max2 [.int i,.int j] = yes (.int (if j > i then j else i)) := rfl
theorem dNa : biV .min2 [.int i,.int j] = yes (.int (if j < i then j else i)) := rfl
theorem c5a : biV .int [.int i] = yes (.int i) := rfl
theorem c4a : biV .int [.bl b] = yes (.int (if b then 1 else 0)) := rfl
theorem eHa : biV .tuple [.lst xs] = yes (.tup xs) := rfl
theorem eIa : biV .tuple [.tup xs] = yes (.tup xs) := rfl
theorem dKa : biV .list [.lst xs] = yes (.lst xs) := rfl
theorem dLa : biV .list [.tup xs] = yes (.lst xs) := rfl
theorem dCa : ixV (.lst xs) (.int i) = opt (L2.atI xs i) := rfl
theorem dDa : ixV (.tup xs) (.int i) = opt (L2.atI xs i) := rfl
theorem c9a : itemsV (.lst xs) = yes xs := rfl
theorem dAa : itemsV (.tup xs) = yes xs := rfl
theorem cUa : deref cs (.non) = .non := rfl
theorem cPa : deref cs (.bl b) = .bl b := rfl
theorem cSa : deref cs (.int i) = .int i := rfl
theorem cVa : deref cs (.str x) = .str x := rfl
theorem cWa : deref cs (.tup xs) = .tup xs := rfl
theorem cTa : deref cs (.lst xs) = .lst xs := rfl
theorem cRa : deref cs (.dct kvs) = .dct kvs := rfl
theorem c2a : inV d (.lst xs) = memV d (.lst xs) := rfl
theorem c3a : inV d (.tup xs) = memV d (.tup xs) := rfl
theorem cOa : Cell.d (.seq xs) = some (.lst xs) := rfl
theorem cQa : D.cell (.lst xs) = some (.seq xs) := rfl
theorem c6a : isOwn (.lst xs) = true := rfl
theorem eKa : view cs (.o n d) = d := rfl
theorem eOa : view cs (.v d) = deref cs d := rfl
theorem dWa : isNon .non = true := rfl
theorem dUa : isNon (.int i) = false := rfl
theorem dSa : isNon (.bl b) = false := rfl
theorem d0a : isNon (.tup xs) = false := rfl
theorem cHa : binV .add (.vtup xs) (.vtup ys) = some (xs.length + ys.length <= sizeLine,.vtup (xs ++ ys)) := rfl
theorem eJa : truV (.vtup xs) = yes (!xs.isEmpty) := rfl
theorem dJa : biV .len [.vtup xs] = yes (.int xs.length) := rfl
theorem dEa : ixV (.vtup xs) (.int i) = opt (L2.atI xs i) := rfl
theorem dBa : itemsV (.vtup xs) = yes xs := rfl
theorem cXa : deref cs (.vtup xs) = .vtup xs := rfl
theorem d1a : isNon (.vtup xs) = false := rfl
theorem eMa : vtpV (.tup xs) = yes (.vtup xs) := rfl
theorem eNa : vtpV (.vtup xs) = yes (.vtup xs) := rfl
theorem eLa : vtpV (.ptup xs) = yes (.vtup xs) := rfl
theorem dVa : isNon (.lst xs) = false := rfl
theorem dZa : isNon (.str x) = false := rfl
theorem cIa : lmV .append xs [d] = some (xs.length < sizeLine,xs ++ [d],.non) := rfl
theorem ev_at0 : L2.atI (d :: xs) 0 = some d := atI_nat (j := 0) rfl
theorem cJa : L2.atI (d :: e :: xs) 1 = some e := atI_nat (j := 1) rfl
theorem cKa : L2.atI (d :: e :: f :: xs) 2 = some f := atI_nat (j := 2) rfl
theorem d6a {lo hi : Option Int} {xs : List D} : slV (.lst xs) lo hi = yes (.lst (cutD xs lo hi)) := rfl
theorem d7a {lo hi : Option Int} {xs : List D} : slV (.tup xs) lo hi = yes (.tup (cutD xs lo hi)) := rfl
theorem gQ {cs : Cells} {n : Nat} {xs : List D} (h : cs[n]? = some (.seq xs)) : deref cs (.ref n) = .lst xs := by
  show (match cs[n]? with
    | some (.seq xs) => D.lst xs
    | some (.map kvs) => D.dct kvs
    | some (.mapT kvs) => D.dctT kvs
    | _ => .ref n) = .lst xs
  rw [h]
theorem lV {i : Int} {j : Nat} (h : L2.ixN xs.length i = some j) : stoV (.lst xs) (.int i) d = yes (.lst (xs.set j d)) := by
  show (match L2.ixN xs.length i with
    | some j => yes (D.lst (xs.set j d))
    | none => none) = _
  rw [h]
theorem j5 {i e : D} {xs ys : List D} (h : setV xs i e = yes (ys,.non)) : stoV (.lst xs) i e = yes (.lst ys) := by
  cases i with
  | int i =>
    have h : (match L2.ixN xs.length i with
      | some j => yes (xs.set j e,D.non)
      | none => none) = yes (ys,.non) := h
    cases q : L2.ixN xs.length i with
    | none => rw [q] at h; cases h
    | some j =>
      rw [q] at h
      cases h
      exact lV q
  | _ => cases h
theorem lS {d e : D} {xs : List D} : setV (d :: xs) (.int 0) e = yes (e :: xs,.non) := by
  show (match L2.ixN (xs.length + 1) 0 with
    | some j => yes ((d :: xs).set j e,D.non)
    | none => none) = _
  rw [show L2.ixN (xs.length + 1) 0 = some 0 by unfold L2.ixN; rw [if_pos (by decide),if_pos (by omega)]; rfl]
  rfl
theorem lT {d e f : D} {xs : List D} : setV (d :: f :: xs) (.int 1) e = yes (d :: e :: xs,.non) := by
  show (match L2.ixN (xs.length + 1 + 1) 1 with
    | some j => yes ((d :: f :: xs).set j e,D.non)
    | none => none) = _
  rw [show L2.ixN (xs.length + 1 + 1) 1 = some 1 by unfold L2.ixN; rw [if_pos (by decide),if_pos (by omega)]; rfl]
  rfl
theorem lU {d e f g : D} {xs : List D} : setV (d :: f :: g :: xs) (.int 2) e = yes (d :: f :: e :: xs,.non) := by
  show (match L2.ixN (xs.length + 1 + 1 + 1) 2 with
    | some j => yes ((d :: f :: g :: xs).set j e,D.non)
    | none => none) = _
  rw [show L2.ixN (xs.length + 1 + 1 + 1) 2 = some 2 by unfold L2.ixN; rw [if_pos (by decide),if_pos (by omega)]; rfl]
  rfl
theorem d8a {d e : D} {xs : List D} : stoV (.lst (d :: xs)) (.int 0) e = yes (.lst (e :: xs)) := j5 lS
theorem d9a {d e f : D} {xs : List D} : stoV (.lst (d :: f :: xs)) (.int 1) e = yes (.lst (d :: e :: xs)) := j5 lT
theorem eAa {d e f g : D} {xs : List D} : stoV (.lst (d :: f :: g :: xs)) (.int 2) e = yes (.lst (d :: f :: e :: xs)) := j5 lU
theorem b6 {cs : Cells} {n : Nat} {c c' : Cell} (h : cs[n]? = some c) : (cs.set n c')[n]? = some c' := List.getElem?_set_self (List.getElem?_eq_some_iff.mp h).1
end
theorem jG {i : Int} {k : Nat} (hk : 0 < k) (h : i.natAbs < 2 ^ k) : i.natAbs.log2 < k := by
  by_cases h0 : i.natAbs = 0
  · rw [h0]; exact hk
  · exact (Nat.log2_lt h0).mpr h
theorem jH {i : Int} (h : -(2 ^ 200) < i /\ i < 2 ^ 200) : i.natAbs.log2 < 200 := jG (by decide) (by omega)
instance decMul (i j : Int) : Decidable (mulOk i j) := inferInstanceAs (Decidable (_ < _))
instance decDiv (j : Int) : Decidable (divOk j) := inferInstanceAs (Decidable (_ /\ _))
theorem mulOk_of {i j : Int} (h : -(2 ^ 200) < i /\ i < 2 ^ 200) (h' : -(2 ^ 200) < j /\ j < 2 ^ 200) : mulOk i j := by
  have := jH h
  have := jH h'
  unfold mulOk
  omega
theorem f2a {i j : Int} {k : Nat} (hk : 0 < k) (hk2 : k < 400000) (h : i.natAbs < 2 ^ k) (h' : j.natAbs < 2 ^ k) : mulOk i j := by
  have := jG hk h
  have := jG hk h'
  unfold mulOk
  omega
theorem lJ {j : Int} (h : 0 < j) (h' : j < 2 ^ 200) : divOk j := by
  have := jH (i := j) ⟨by omega,h'⟩
  exact ⟨h,by omega⟩
theorem aP : sizeLine = 16777216 := sizeLine_eq
theorem cAa {x y : Str} : eqV (.str x) (.str y) = some (True,PyData.eqv (.str x) (.str y)) := by
  show some (min 0 0 <= 60,_) = _
  simp
theorem cBa (x : Str) : PyData.eqv (.str x) (.str x) = true := by
  simp [PyData.eqv]
theorem j3a {d : D} {p : PyData} (h : d.py = some p) : biV .repr [d] = some (d.rm <= 16777216 /\ d.dep <= 60,.str p.shown) := by
  show (match d.py with
    | some p => some (d.rm <= 16777216 /\ d.dep <= 60,D.str p.shown)
    | none => none) = _
  rw [h]
theorem iR {xs : List D} {i : Nat} {d : D} (h : xs[i]? = some d) : L2.atI xs (i : Int) = some d := atI_nat h
section
set_option autoImplicit true
set_option relaxedAutoImplicit true
theorem nKa {G : SF} {con : Str -> Option D} : wpE G con (.non) L cs Q = (Q .non cs) := rfl
theorem mRa {G : SF} {con : Str -> Option D} {b} : wpE G con (.bl b) L cs Q = (Q (.bl b) cs) := rfl
theorem m5a {G : SF} {con : Str -> Option D} {i} : wpE G con (.int i) L cs Q = (Q (.int i) cs) := rfl
theorem nWa {G : SF} {con : Str -> Option D} {x} : wpE G con (.str x) L cs Q = (Q (.str x) cs) := rfl
theorem n1a {G : SF} {con : Str -> Option D} {i} : wpE G con (.var i) L cs Q = (match L[i]? with
    | some (.val d) => Q d cs
    | _ => False) := rfl
theorem nOa {G : SF} {con : Str -> Option D} {i} : wpE G con (.peek i) L cs Q = (match L[i]? with
    | some (.val d) => Q d cs
    | _ => False) := rfl
theorem m3a {G : SF} {con : Str -> Option D} {x} : wpE G con (.glob x) L cs Q = (match con x with
    | some d => Q d cs
    | none => False) := rfl
theorem mQa {G : SF} {con : Str -> Option D} {o} {a} {b} : wpE G con (.bin o a b) L cs Q = (opd a (wpE G con a) L cs fun u cs1 => opd b (wpE G con b) L cs1 fun v cs2 => binK o (view cs2 u) (view cs2 v) fun d => Q d cs2) := rfl
theorem nHa {G : SF} {con : Str -> Option D} {a} : wpE G con (.neg a) L cs Q = (wpE G con a L cs fun d cs1 => match d with
    | .int i => Q (.int (-i)) cs1
    | _ => False) := rfl
theorem mOa {G : SF} {con : Str -> Option D} {a} {b} : wpE G con (.and a b) L cs Q = (wpE G con a L cs fun d cs1 => tru (deref cs1 d) fun t => match t with
    | true => wpE G con b L cs1 Q
    | false => Q d cs1) := rfl
theorem nMa {G : SF} {con : Str -> Option D} {a} {b} : wpE G con (.or a b) L cs Q = (wpE G con a L cs fun d cs1 => tru (deref cs1 d) fun t => match t with
    | true => Q d cs1
    | false => wpE G con b L cs1 Q) := rfl
theorem m6a {G : SF} {con : Str -> Option D} {t a} : wpE G con (.isi t a) L cs Q = (wpE G con a L cs fun d cs1 => match isiV t d with
  | some b => Q (.bl b) cs1
  | none => False) := rfl
theorem nLa {G : SF} {con : Str -> Option D} {a} : wpE G con (.not a) L cs Q = (opd a (wpE G con a) L cs fun u cs1 => tru (view cs1 u) fun t => Q (.bl (!t)) cs1) := rfl
theorem m4a {G : SF} {con : Str -> Option D} {t} {a} {b} : wpE G con (.ife t a b) L cs Q = (opd t (wpE G con t) L cs fun u cs1 => tru (view cs1 u) fun c => match c with
    | true => wpE G con a L cs1 Q
    | false => wpE G con b L cs1 Q) := rfl
theorem mVa {G : SF} {con : Str -> Option D} {o} {a} {b} : wpE G con (.cmp o a b) L cs Q = (opd a (wpE G con a) L cs fun u cs1 => opd b (wpE G con b) L cs1 fun v cs2 => cmpK o (view cs2 u) (view cs2 v) fun t => Q (.bl t) cs2) := rfl
theorem mUa {G : SF} {con : Str -> Option D} {o} {p} {a} {b} {c} : wpE G con (.chain o p a b c) L cs Q = (wpE G con a L cs fun x cs1 => wpE G con b L cs1 fun y cs2 => cmpK o x y fun t => match t with
    | true => wpE G con c L cs2 fun z cs3 => cmpK p y z fun t2 => Q (.bl t2) cs3
    | false => Q (.bl false) cs2) := rfl
theorem mTa {G : SF} {con : Str -> Option D} {f} {as} : wpE G con (.call f as) L cs Q = (wpEs G con as L cs fun ds cs1 => G f ds cs1 Q) := rfl
theorem mPa {G : SF} {con : Str -> Option D} {f} {as} : wpE G con (.bi f as) L cs Q = (wpOs G con as L cs fun us cs1 => biK f (us.map (view cs1)) fun d => Q d cs1) := rfl
theorem m1a {G : SF} {con : Str -> Option D} {t} : wpE G con (.dnew t) L cs Q = (match t with
    | true => Q (.dctT []) cs
    | false => Q (.dct []) cs) := rfl
theorem mXa {G : SF} {con : Str -> Option D} {ks es} : wpE G con (.ddis ks es) L cs Q = (wpEs G con es L cs fun ds cs1 => Q (.dct (dAll [] (ks.zip ds))) cs1) := rfl
theorem nXa {G : SF} {con : Str -> Option D} {e} : wpE G con (.te0 e) L cs Q = (opd e (wpE G con e) L cs fun u cs1 => match view cs1 u with
    | .tup xs => Q (.bl xs.isEmpty) cs1
    | _ => False) := rfl
theorem nIa {G : SF} {con : Str -> Option D} {e} : wpE G con (.nen e) L cs Q = (opd e (wpE G con e) L cs fun u cs1 => match view cs1 u with
    | .lst xs => Q (.bl (!xs.isEmpty)) cs1
    | _ => False) := rfl
theorem nZa {G : SF} {con : Str -> Option D} {e} : wpE G con (.trv e) L cs Q = (wpE G con e L cs fun d cs1 => match d with
    | .tup xs => Q (.tup xs.reverse) cs1
    | _ => False) := rfl
theorem nPa {G : SF} {con : Str -> Option D} {e} : wpE G con (.rev e) L cs Q = (opd e (wpE G con e) L cs fun u cs1 => ok (revV (view cs1 u)) fun d => Q d cs1) := rfl
theorem nYa {G : SF} {con : Str -> Option D} {t lo hi} : wpE G con (.trg t lo hi) L cs Q = (wpC G con lo L cs fun l cs1 => wpE G con hi L cs1 fun d cs2 => match d with
    | .int j => (0 <= l.getD 0 /\ l.getD 0 <= 16777216 /\ 0 <= j /\ j <= 16777216) /\ match t with
      | true => Q (.tup (rangeD (l.getD 0) (j - l.getD 0).toNat)) cs2
      | false => Q (.lst (rangeD (l.getD 0) (j - l.getD 0).toNat)) cs2
    | _ => False) := rfl
theorem nQa {G : SF} {con : Str -> Option D} {o k e} : wpE G con (.sdef o k e) L cs Q = (wpE G con o L cs fun d cs1 => match d with
    | .ref n => (∃ kvs,cs1[n]? = some (.map kvs)) /\ wpE G con k L cs1 fun kd cs2 => wpE G con e L cs2 fun z cs3 => match cs3[n]?,keyK kd with
      | some (.map kvs),some kk => kvs.length < sizeLine /\ match dGet kvs kk with
        | some u => Q u cs3
        | none => Q z (cs3.set n (.map (dPut kvs kk z)))
      | _,_ => False
    | _ => False) := rfl
theorem nCa {G : SF} {con : Str -> Option D} {f} {o} : wpE G con (.lend f o) L cs Q = (opd o (wpE G con o) L cs fun u cs1 => match u with
    | .o _ d => ∃ ns : List Int,d = .lst (ns.map D.int) /\ G f [.ref cs1.length] (cs1 ++ [.seq (ns.map D.int)]) fun r cs2 => D.rbel cs1.length r = true /\ cs2 = cs1 ++ [.seq (ns.map D.int)] /\ Q r cs1
    | _ => False) := rfl
theorem n2a {G : SF} {con : Str -> Option D} {e} : wpE G con (.vtp e) L cs Q = (wpE G con e L cs fun d cs1 => ok (vtpV d) fun r => Q r cs1) := rfl
theorem m0a {G : SF} {con : Str -> Option D} {o k e} : wpE G con (.dgetn o k e) L cs Q = (opd o (wpE G con o) L cs fun u cs1 => isDct (view cs1 u) = true /\ wpE G con k L cs1 fun kd cs2 => wpE G con e L cs2 fun z cs3 => match get2V (view cs3 u) kd z with
    | some r => Q r cs3
    | none => False) := rfl
theorem nUa {G : SF} {con : Str -> Option D} {m} {o y} : wpE G con (.sm m o y) L cs Q = (wpE G con o L cs fun d cs1 => isSt d = true /\ opd y (wpE G con y) L cs1 fun u cs2 => ok (smV m d (view cs2 u)) fun r => Q r cs2) := rfl
theorem nSa {G : SF} {con : Str -> Option D} {o i} : wpE G con (.six o i) L cs Q = (wpE G con o L cs fun d cs1 => wpE G con i L cs1 fun j cs2 => ok (sixV d j) fun r => Q r cs2) := rfl
theorem nRa {G : SF} {con : Str -> Option D} {n} {c s} : wpE G con (.sin n c s) L cs Q = (wpE G con c L cs fun d cs1 => wpE G con s L cs1 fun e cs2 => ok (sinV n d e) fun r => Q (.bl r) cs2) := rfl
theorem nAa {G : SF} {con : Str -> Option D} {x} {e} : wpE G con (.kix x e) L cs Q = (wpE G con e L cs fun d cs1 => ok (kixV (con x) d) fun r => Q r cs1) := rfl
theorem m8a {G : SF} {con : Str -> Option D} {x} {e z} : wpE G con (.kget x e z) L cs Q = (wpE G con e L cs fun d cs1 => wpE G con z L cs1 fun f cs2 => ok (kgetV (con x) d f) fun r => Q r cs2) := rfl
theorem m9a {G : SF} {con : Str -> Option D} {n} {x} {e} : wpE G con (.kin n x e) L cs Q = (wpE G con e L cs fun d cs1 => ok (kinV n (con x) d) fun r => Q (.bl r) cs1) := rfl
theorem nBa {G : SF} {con : Str -> Option D} {n} {x} {e} : wpE G con (.kmem n x e) L cs Q = (wpE G con e L cs fun d cs1 => ok (kmemV n (con x) d) fun r => Q (.bl r) cs1) := rfl
theorem nNa {G : SF} {con : Str -> Option D} {x} {e} : wpE G con (.oth x e) L cs Q = (wpE G con e L cs fun d cs1 => match othV d with
    | some r => Q r cs1
    | none => False) := rfl
theorem mZa {G : SF} {con : Str -> Option D} {o k} : wpE G con (.dget1 o k) L cs Q = (opd o (wpE G con o) L cs fun u cs1 => isDct (view cs1 u) = true /\ wpE G con k L cs1 fun kd cs2 => match get1V (view cs2 u) kd with
    | some r => Q r cs2
    | none => False) := rfl
theorem nDa {G : SF} {con : Str -> Option D} {o y} : wpE G con (.lidx o y) L cs Q = (opd o (wpE G con o) L cs fun u cs1 => lstB (view cs1 u) = true /\ wpE G con y L cs1 fun d cs2 => ok (idxV (view cs2 u) d) fun r => Q r cs2) := rfl
theorem nVa {G : SF} {con : Str -> Option D} {e} : wpE G con (.sset e) L cs Q = (opd e (wpE G con e) L cs fun u cs1 => ok (ssetV (view cs1 u)) fun d => Q d cs1) := rfl
theorem mYa {G : SF} {con : Str -> Option D} {o k e} : wpE G con (.dget o k e) L cs Q = (opd o (wpE G con o) L cs fun u cs1 => isDct (view cs1 u) = true /\ wpE G con k L cs1 fun kd cs2 => wpE G con e L cs2 fun z cs3 => match dAt (view cs3 u) kd with
    | some o => Q (o.getD z) cs3
    | none => False) := rfl
theorem m7a {G : SF} {con : Str -> Option D} {o} {i} : wpE G con (.ix o i) L cs Q = (opd o (wpE G con o) L cs fun u cs1 => wpE G con i L cs1 fun j cs2 => ixK (view cs2 u) j fun d => Q d cs2) := rfl
theorem nTa {G : SF} {con : Str -> Option D} {o} {lo} {hi} : wpE G con (.sl o lo hi) L cs Q = (opd o (wpE G con o) L cs fun u cs1 => wpC G con lo L cs1 fun l cs2 => wpC G con hi L cs2 fun h cs3 => slK (view cs3 u) l h fun d => Q d cs3) := rfl
theorem n0a {G : SF} {con : Str -> Option D} {es} : wpE G con (.tup es) L cs Q = (wpEs G con es L cs fun ds cs1 => ds.length <= sizeLine /\ Q (.tup ds) cs1) := rfl
theorem nEa {G : SF} {con : Str -> Option D} {es} : wpE G con (.lst es) L cs Q = (wpEs G con es L cs fun ds cs1 => ds.length <= sizeLine /\ Q (.lst ds) cs1) := rfl
theorem mSa {G : SF} {con : Str -> Option D} {e} : wpE G con (.box e) L cs Q = (wpE G con e L cs fun d cs1 => match d with
    | .lst ds => Q (.ref cs1.length) (cs1 ++ [.seq ds])
    | .dct ds => Q (.ref cs1.length) (cs1 ++ [.map ds])
    | .dctT ds => Q (.ref cs1.length) (cs1 ++ [.mapT ds])
    | _ => False) := rfl
theorem nGa {G : SF} {con : Str -> Option D} {o} {m} {as} : wpE G con (.mth o m as) L cs Q = (wpE G con o L cs fun d cs1 => match d with
    | .ref n => (∃ xs,cs1[n]? = some (.seq xs)) /\ wpEs G con as L cs1 fun ds cs2 => match cs2[n]? with
      | some (.seq xs) => ok (lmV m xs ds) fun z => Q z.2 (cs2.set n (.seq z.1))
      | _ => False
    | _ => False) := rfl
theorem n4a {G : SF} {con : Str -> Option D} : wpEs G con (.nil) L cs Q = (Q [] cs) := rfl
theorem n3a {G : SF} {con : Str -> Option D} {e} {r} : wpEs G con (.cons e r) L cs Q = (wpE G con e L cs fun d cs1 => wpEs G con r L cs1 fun ds cs2 => Q (d :: ds) cs2) := rfl
theorem oDa {G : SF} {con : Str -> Option D} : wpOs G con (.nil) L cs Q = (Q [] cs) := rfl
theorem oCa {G : SF} {con : Str -> Option D} {e} {r} : wpOs G con (.cons e r) L cs Q = (opd e (wpE G con e) L cs fun d cs1 => wpOs G con r L cs1 fun ds cs2 => Q (d :: ds) cs2) := rfl
theorem mMa {G : SF} {con : Str -> Option D} : wpC G con (.no) L cs Q = (Q none cs) := rfl
theorem mNa {G : SF} {con : Str -> Option D} {e} : wpC G con (.yes e) L cs Q = (wpE G con e L cs fun d cs1 => match d with
    | .int i => Q (some i) cs1
    | _ => False) := rfl
theorem n9a {G : SF} {con : Str -> Option D} {e} : wpI G con (.val e) L cs Q = (opd e (wpE G con e) L cs fun u cs1 => itemsK (view cs1 u) fun xs => Q xs (stays u cs1) cs1) := rfl
theorem n7a {G : SF} {con : Str -> Option D} {a} : wpI G con (.rng1 a) L cs Q = (wpE G con a L cs fun d cs1 => match d with
    | .int j => smallI j /\ Q (rangeD 0 j.toNat) (fun _ _ => True) cs1
    | _ => False) := rfl
theorem n8a {G : SF} {con : Str -> Option D} {a} {b} : wpI G con (.rng2 a b) L cs Q = (wpE G con a L cs fun d cs1 => wpE G con b L cs1 fun d2 cs2 => match d,d2 with
    | .int i,.int j => smallI i /\ smallI j /\ Q (rangeD i (j - i).toNat) (fun _ _ => True) cs2
    | _,_ => False) := rfl
theorem n6a {G : SF} {con : Str -> Option D} {e} : wpI G con (.enum e) L cs Q = (opd e (wpE G con e) L cs fun u cs1 => itemsK (view cs1 u) fun xs => Q (enumD 0 xs) (stays u cs1) cs1) := rfl
theorem oAa {G : SF} {con : Str -> Option D} {a} {b} : wpI G con (.zip2 a b) L cs Q = (opd a (wpE G con a) L cs fun u cs1 => opd b (wpE G con b) L cs1 fun v cs2 => itemsK (view cs2 u) fun xs => itemsK (view cs2 v) fun ys =>
      Q (zipD xs ys) (fun L' cs' => stays u cs2 L' cs' /\ stays v cs2 L' cs') cs2) := rfl
theorem n5a {G : SF} {con : Str -> Option D} {e} : wpI G con (.chars e) L cs R = (wpE G con e L cs fun d cs1 => match d with
    | .str x => R (x.cps.toList.map fun c => .str ⟨#[c]⟩) (fun _ _ => True) cs1
    | _ => False) := rfl
theorem oBa {G : SF} {con : Str -> Option D} {a} {b} {c} : wpI G con (.zip3 a b c) L cs Q = (opd a (wpE G con a) L cs fun u cs1 => opd b (wpE G con b) L cs1 fun v cs2 => opd c (wpE G con c) L cs2 fun w cs3 => itemsK (view cs3 u) fun xs => itemsK (view cs3 v) fun ys => itemsK (view cs3 w) fun zs =>
      Q (zipD3 xs ys zs) (fun L' cs' => stays u cs3 L' cs' /\ stays v cs3 L' cs' /\ stays w cs3 L' cs') cs3) := rfl
theorem oXa {G : SF} {con : Str -> Option D} {g} {e} : Sp.wpS G con (.set g e) L cs k = (wpE G con e L cs fun d cs1 => asg g d L fun L1 => k.nx L1 cs1) := rfl
theorem oMa {G : SF} {con : Str -> Option D} {i} {e} : Sp.wpS G con (.own i e) L cs k = (wpE G con e L cs fun d cs1 => isOwn d = true /\ k.nx (L.set i (.own d)) cs1) := rfl
theorem oPa {G : SF} {con : Str -> Option D} {i} {j} {a} {b} : Sp.wpS G con (.parc i j a b) L cs k = (wpE G con a L cs fun d cs1 => wpE G con b L cs1 fun e cs2 => isOwn e = true /\ k.nx ((L.set i (.val d)).set j (.own e)) cs2) := rfl
theorem oRa {G : SF} {con : Str -> Option D} {i} {j} {a} {b} : Sp.wpS G con (.parv i j a b) L cs k = (wpE G con a L cs fun d cs1 => wpE G con b L cs1 fun e cs2 => isOwn e = true /\ k.nx ((L.set i (.val d)).set j (.own e)) cs2) := rfl
theorem oQa {G : SF} {con : Str -> Option D} {i} {j} {a} {b} : Sp.wpS G con (.paro i j a b) L cs k = (wpE G con a L cs fun d cs1 => isOwn d = true /\ wpE G con b L cs1 fun e cs2 => isOwn e = true /\ k.nx ((L.set i (.own d)).set j (.own e)) cs2) := rfl
theorem oNa {G : SF} {con : Str -> Option D} {i} {j} {a} {b} : Sp.wpS G con (.par i j a b) L cs k = (wpE G con a L cs fun d cs1 => wpE G con b L cs1 fun e cs2 => k.nx ((L.set i (.val d)).set j (.val e)) cs2) := rfl
theorem oOa {G : SF} {con : Str -> Option D} {i} {j} {l} {a} {b} {c} : Sp.wpS G con (.par3 i j l a b c) L cs k = (wpE G con a L cs fun d cs1 => wpE G con b L cs1 fun e cs2 => wpE G con c L cs2 fun f cs3 => k.nx (((L.set i (.val d)).set j (.val e)).set l (.val f)) cs3) := rfl
theorem oJa {G : SF} {con : Str -> Option D} {is} {s} : Sp.wpS G con (.fr is s) L cs k = (wpS G con s (frz is L) cs k) := rfl
theorem oZa {G : SF} {con : Str -> Option D} {o} {i} {e} : Sp.wpS G con (.setix o i e) L cs k = (wpE G con e L cs fun d cs1 => plc o (wpE G con o) L cs1 fun p cs2 => wpE G con i L cs2 fun j cs3 => sto p L cs3 (fun c => stoV c j d) k.nx) := rfl
theorem o0a {G : SF} {con : Str -> Option D} {o i o2 i2 a b} : Sp.wpS G con (.swp o i o2 i2 a b) L cs k = (wpE G con a L cs fun d cs1 => wpE G con b L cs1 fun e cs2 => plc o (wpE G con o) L cs2 fun p cs3 => wpE G con i L cs3 fun j cs4 => sto p L cs4 (fun c => stoV c j d) fun L5 cs5 =>
      plc o2 (wpE G con o2) L5 cs5 fun p2 cs6 => wpE G con i2 L5 cs6 fun j2 cs7 => sto p2 L5 cs7 (fun c => stoV c j2 e) k.nx) := rfl
theorem oEa {G : SF} {con : Str -> Option D} {i} {o} {e} : Sp.wpS G con (.aug i o e) L cs k = (match L[i]? with
    | some (.val (.int x)) => wpE G con e L cs fun d cs1 => match o,d with
      | .add,.int y => k.nx (L.set i (.val (.int (x + y)))) cs1
      | _,_ => False
    | _ => False) := rfl
theorem oTa {G : SF} {con : Str -> Option D} {j} {o} : Sp.wpS G con (.pops j o) L cs k = (opd o (wpE G con o) L cs fun u cs1 => match u with
    | .o i (.lst xs) => match xs[xs.length - 1]? with
      | some y => k.nx ((L.set i (.own (.lst xs.dropLast))).set j (.val y)) cs1
      | none => False
    | _ => False) := rfl
theorem oLa {G : SF} {con : Str -> Option D} {o} {m} {as} : Sp.wpS G con (.mth o m as) L cs k = (plc o (wpE G con o) L cs fun p cs1 => lsAt p L cs1 /\ wpEs G con as L cs1 fun ds cs2 => chg p L cs2 (fun xs => lmV m xs ds) k.nx) := rfl
theorem oHa {G : SF} {con : Str -> Option D} {e} : Sp.wpS G con (.exp e) L cs k = (wpE G con e L cs fun _ cs1 => k.nx L cs1) := rfl
theorem oUa {G : SF} {con : Str -> Option D} {e} : Sp.wpS G con (.ret e) L cs k = (wpE G con e L cs fun d cs1 => k.rt d cs1) := rfl
theorem oVa {G : SF} {con : Str -> Option D} : Sp.wpS G con (.retn) L cs k = (k.rt .non cs) := rfl
theorem oKa {G : SF} {con : Str -> Option D} {t} {a} {b} : Sp.wpS G con (.ifs t a b) L cs k = (opd t (wpE G con t) L cs fun u cs1 => tru (view cs1 u) fun c => match c with
    | true => wpSs G con a L cs1 k
    | false => wpSs G con b L cs1 k) := rfl
theorem oIa {G : SF} {con : Str -> Option D} {g} {src} {b} : Sp.wpS G con (.for_ g src b) L cs k = (wpI G con src L cs fun xs st cs1 => forW g (wpSs G con b) st k xs L cs1) := rfl
theorem oWa {G : SF} {con : Str -> Option D} : Sp.wpS G con .rse L cs k = False := rfl
theorem oSa {G : SF} {con : Str -> Option D} : Sp.wpS G con (.pass) L cs k = (k.nx L cs) := rfl
theorem oFa {G : SF} {con : Str -> Option D} : Sp.wpS G con (.brk) L cs k = (k.bk L cs) := rfl
theorem oGa {G : SF} {con : Str -> Option D} : Sp.wpS G con (.cnt) L cs k = (k.ct L cs) := rfl
theorem o2a {G : SF} {con : Str -> Option D} : wpSs G con (.nil) L cs k = (k.nx L cs) := rfl
def nxt (G : SF) (con : Str -> Option D) (r : CSs) (k : En) : Loc -> Cells -> Prop := fun L cs => wpSs G con r L cs k
theorem gCa {G : SF} {con : Str -> Option D} {r : CSs} {k : En} {L : Loc} {cs : Cells} : nxt G con r k L cs = wpSs G con r L cs k := rfl
theorem o1a {G : SF} {con : Str -> Option D} {s : CS} {r : CSs} {L : Loc} {cs : Cells} {k : En} : wpSs G con (.cons s r) L cs k = Sp.wpS G con s L cs { nx := nxt G con r k,rt := k.rt,bk := k.bk,ct := k.ct } := rfl
theorem mWa {G : SF} {con : Str -> Option D} {own : List Nat} {g : Tg} {src : Src} {t : CO} {e : CE} {L : Loc} {cs : Cells} {Q : D -> Cells -> Prop} : wpE G con (.comp own g src t e) L cs Q = (wpI G con src L cs fun xs st cs1 => (noOwn L own = true /\ xs.length <= sizeLine) /\ compW own g (wpT G con t) (wpE G con e) st xs L cs1 fun ds cs2 => Q (.lst ds) cs2) := rfl
theorem o3a {G : SF} {con : Str -> Option D} : wpT G con .no = none := rfl
theorem o4a {G : SF} {con : Str -> Option D} {c : CE} : wpT G con (.yes c) = some (wpE G con c) := rfl
theorem g6a {f : SE} {L : Loc} {cs : Cells} {Q : Opd -> Cells -> Prop} : opd (.non ) f L cs Q = f L cs fun d cs' => Q (.v d) cs' := rfl
theorem o_bl {f : SE} {L : Loc} {cs : Cells} {Q : Opd -> Cells -> Prop} {q0 : Bool} : opd (.bl q0) f L cs Q = f L cs fun d cs' => Q (.v d) cs' := rfl
theorem gSa {f : SE} {L : Loc} {cs : Cells} {Q : Opd -> Cells -> Prop} {q0 : Int} : opd (.int q0) f L cs Q = f L cs fun d cs' => Q (.v d) cs' := rfl
theorem hEa {f : SE} {L : Loc} {cs : Cells} {Q : Opd -> Cells -> Prop} {q0 : Str} : opd (.str q0) f L cs Q = f L cs fun d cs' => Q (.v d) cs' := rfl
theorem hJa {f : SE} {L : Loc} {cs : Cells} {Q : Opd -> Cells -> Prop} {q0 : Nat} : opd (.var q0) f L cs Q = f L cs fun d cs' => Q (.v d) cs' := rfl
theorem gQa {f : SE} {L : Loc} {cs : Cells} {Q : Opd -> Cells -> Prop} {q0 : Str} : opd (.glob q0) f L cs Q = f L cs fun d cs' => Q (.v d) cs' := rfl
theorem gEa {f : SE} {L : Loc} {cs : Cells} {Q : Opd -> Cells -> Prop} {q0 : BOp} {q1 : CE} {q2 : CE} : opd (.bin q0 q1 q2) f L cs Q = f L cs fun d cs' => Q (.v d) cs' := rfl
theorem g3a {f : SE} {L : Loc} {cs : Cells} {Q : Opd -> Cells -> Prop} {q0 : CE} : opd (.neg q0) f L cs Q = f L cs fun d cs' => Q (.v d) cs' := rfl
theorem gDa {f : SE} {L : Loc} {cs : Cells} {Q : Opd -> Cells -> Prop} {q0 : CE} {q1 : CE} : opd (.and q0 q1) f L cs Q = f L cs fun d cs' => Q (.v d) cs' := rfl
theorem o_or {f : SE} {L : Loc} {cs : Cells} {Q : Opd -> Cells -> Prop} {q0 : CE} {q1 : CE} : opd (.or q0 q1) f L cs Q = f L cs fun d cs' => Q (.v d) cs' := rfl
theorem g7a {f : SE} {L : Loc} {cs : Cells} {Q : Opd -> Cells -> Prop} {q0 : CE} : opd (.not q0) f L cs Q = f L cs fun d cs' => Q (.v d) cs' := rfl
theorem gRa {f : SE} {L : Loc} {cs : Cells} {Q : Opd -> Cells -> Prop} {q0 : CE} {q1 : CE} {q2 : CE} : opd (.ife q0 q1 q2) f L cs Q = f L cs fun d cs' => Q (.v d) cs' := rfl
theorem gIa {f : SE} {L : Loc} {cs : Cells} {Q : Opd -> Cells -> Prop} {q0 : COp} {q1 : CE} {q2 : CE} : opd (.cmp q0 q1 q2) f L cs Q = f L cs fun d cs' => Q (.v d) cs' := rfl
theorem gHa {f : SE} {L : Loc} {cs : Cells} {Q : Opd -> Cells -> Prop} {q0 : COp} {q1 : COp} {q2 : CE} {q3 : CE} {q4 : CE} : opd (.chain q0 q1 q2 q3 q4) f L cs Q = f L cs fun d cs' => Q (.v d) cs' := rfl
theorem gGa {f : SE} {L : Loc} {cs : Cells} {Q : Opd -> Cells -> Prop} {q0 : Str} {q1 : CEs} : opd (.call q0 q1) f L cs Q = f L cs fun d cs' => Q (.v d) cs' := rfl
theorem o_bi {f : SE} {L : Loc} {cs : Cells} {Q : Opd -> Cells -> Prop} {q0 : Bi} {q1 : CEs} : opd (.bi q0 q1) f L cs Q = f L cs fun d cs' => Q (.v d) cs' := rfl
theorem o_ix {f : SE} {L : Loc} {cs : Cells} {Q : Opd -> Cells -> Prop} {q0 : CE} {q1 : CE} : opd (.ix q0 q1) f L cs Q = f L cs fun d cs' => Q (.v d) cs' := rfl
theorem o_sl {f : SE} {L : Loc} {cs : Cells} {Q : Opd -> Cells -> Prop} {q0 : CE} {q1 : CO} {q2 : CO} : opd (.sl q0 q1 q2) f L cs Q = f L cs fun d cs' => Q (.v d) cs' := rfl
theorem hIa {f : SE} {L : Loc} {cs : Cells} {Q : Opd -> Cells -> Prop} {q0 : CEs} : opd (.tup q0) f L cs Q = f L cs fun d cs' => Q (.v d) cs' := rfl
theorem g0a {f : SE} {L : Loc} {cs : Cells} {Q : Opd -> Cells -> Prop} {q0 : CEs} : opd (.lst q0) f L cs Q = f L cs fun d cs' => Q (.v d) cs' := rfl
theorem gFa {f : SE} {L : Loc} {cs : Cells} {Q : Opd -> Cells -> Prop} {q0 : CE} : opd (.box q0) f L cs Q = f L cs fun d cs' => Q (.v d) cs' := rfl
theorem g2a {f : SE} {L : Loc} {cs : Cells} {Q : Opd -> Cells -> Prop} {q0 : CE} {q1 : LM} {q2 : CEs} : opd (.mth q0 q1 q2) f L cs Q = f L cs fun d cs' => Q (.v d) cs' := rfl
theorem gJa {f : SE} {L : Loc} {cs : Cells} {Q : Opd -> Cells -> Prop} {q0 : List Nat} {q1 : Tg} {q2 : Src} {q3 : CO} {q4 : CE} : opd (.comp q0 q1 q2 q3 q4) f L cs Q = f L cs fun d cs' => Q (.v d) cs' := rfl
theorem hKa {α : Type} {o : Vo α} {k : α -> Prop} : ok o k = (match o with
  | some (c,z) => c /\ k z
  | none => False) := rfl
theorem pGa {α : Type} {z : α} : yes z = some (True,z) := rfl
theorem hTa {α : Type} {z : α} : opt (some z) = some (True,z) := rfl
theorem map_some {α β : Type} {f : α -> β} {c : Prop} {z : α} : Vo.map f (some (c,z)) = some (c,f z) := rfl
theorem o7a {i : Nat} {f : SE} {L : Loc} {cs : Cells} {Q : Opd -> Cells -> Prop} : opd (.peek i) f L cs Q = match L[i]? with
    | some (.own d) => Q (.o i d) cs
    | some (.val d) => Q (.v d) cs
    | _ => False := rfl
end
theorem d2a {d : D} {xs : List D} : lmV .popAt (d :: xs) [.int 0] = some (-(2 ^ 63) <= (0 : Int) /\ (0 : Int) < 2 ^ 63,xs,d) := by
  have e : seqIndex? 0 (d :: xs).length = some 0 := by
    have := seqIndex_of (k := (0 : Int)) (n := (d :: xs).length) (by decide) (by simp)
    simpa using this
  show (match seqIndex? 0 (d :: xs).length with
    | some j => match (d :: xs)[j]? with
      | some y => some (-(2 ^ 63) <= (0 : Int) /\ (0 : Int) < 2 ^ 63,(d :: xs).eraseIdx j,y)
      | none => none
    | none => none) = _
  rw [e]
  rfl
end Sp
set_option autoImplicit true
set_option autoImplicit false
namespace Sp
open PySem PySem.Spec PyProof.Rows L2
theorem gTa {f : SE} {L : Loc} {cs : Cells} {Q : Opd -> Cells -> Prop} {q0 : Ty} {q1 : CE} : opd (.isi q0 q1) f L cs Q = f L cs fun d cs' => Q (.v d) cs' := rfl
structure TX where
  G : SF
  con : Str -> Option D
  mono : SFm G
structure Rp (α : Type) where
  enc : α -> D
class NoRef {α : Type} (R : Rp α) : Prop where
  nr : ∀ a n,R.enc a ≠ .ref n
namespace Rp
def int : Rp Int := ⟨.int⟩
def nat : Rp Nat := ⟨fun n => .int (n : Nat)⟩
def bool : Rp Bool := ⟨.bl⟩
def str : Rp Str := ⟨.str⟩
def non : Rp Unit := ⟨fun _ => .non⟩
def ref (n : Nat) : Rp Unit := ⟨fun _ => .ref n⟩
variable {α β γ δ : Type}
def lst (R : Rp α) : Rp (List α) := ⟨fun xs => .lst (xs.map R.enc)⟩
def tup (R : Rp α) : Rp (List α) := ⟨fun xs => .tup (xs.map R.enc)⟩
def ptup (R : Rp α) : Rp (List α) := ⟨fun xs => .ptup (xs.map R.enc)⟩
def vtup (R : Rp α) : Rp (List α) := ⟨fun xs => .vtup (xs.map R.enc)⟩
def pr (A : Rp α) (B : Rp β) : Rp (α × β) := ⟨fun p => .tup [A.enc p.1,B.enc p.2]⟩
def pr3 (A : Rp α) (B : Rp β) (C : Rp γ) : Rp (α × β × γ) := ⟨fun p => .tup [A.enc p.1,B.enc p.2.1,C.enc p.2.2]⟩
def opt (R : Rp α) : Rp (Option α) := ⟨fun o => match o with
  | none => .non
  | some a => R.enc a⟩
end Rp
section
variable {α β γ δ : Type}
instance : NoRef Rp.int := ⟨fun _ _ h => nomatch h⟩
instance : NoRef Rp.nat := ⟨fun _ _ h => nomatch h⟩
instance : NoRef Rp.bool := ⟨fun _ _ h => nomatch h⟩
instance : NoRef Rp.str := ⟨fun _ _ h => nomatch h⟩
instance : NoRef Rp.non := ⟨fun _ _ h => nomatch h⟩
instance {R : Rp α} : NoRef (Rp.lst R) := ⟨fun _ _ h => nomatch h⟩
instance {R : Rp α} : NoRef (Rp.tup R) := ⟨fun _ _ h => nomatch h⟩
instance {R : Rp α} : NoRef (Rp.ptup R) := ⟨fun _ _ h => nomatch h⟩
instance {R : Rp α} : NoRef (Rp.vtup R) := ⟨fun _ _ h => nomatch h⟩
instance {A : Rp α} {B : Rp β} : NoRef (Rp.pr A B) := ⟨fun _ _ h => nomatch h⟩
instance {A : Rp α} {B : Rp β} {C : Rp γ} : NoRef (Rp.pr3 A B C) := ⟨fun _ _ h => nomatch h⟩
instance {R : Rp α} [h : NoRef R] : NoRef (Rp.opt R) := ⟨fun a n => match a with
  | none => fun h => nomatch h
  | some a => h.nr a n⟩
end
class EqR {α : Type} [DecidableEq α] (R : Rp α) where
  py : α -> PyData
  hpy : ∀ a,(R.enc a).py = some (py a)
  dep : Nat
  hdep : ∀ a,(R.enc a).dep <= dep
  heq : ∀ a b,PyData.eqv (py a) (py b) = decide (a = b)
def OpOk (u : Opd) (d : D) : Prop := (∀ cs,view cs u = d) /\ ∀ c L c',stays u c L c'
theorem b2a {d : D} (h : ∀ n,d ≠ .ref n) (cs : Cells) : deref cs d = d := by
  cases d with
  | ref n => exact absurd rfl (h n)
  | _ => rfl
theorem OpOk.v {d : D} (h : ∀ n,d ≠ .ref n) : OpOk (.v d) d := ⟨fun cs => b2a h cs,fun c L c' => by
  cases d with
  | ref n => exact absurd rfl (h n)
  | _ => trivial⟩
theorem OpOk.o {i : Nat} {d : D} : OpOk (.o i d) d := ⟨fun _ => rfl,fun _ _ _ => trivial⟩
theorem jM {c : CE} {f : SE} {L : Loc} {cs : Cells} {Q : Opd -> Cells -> Prop} (h : c.peeks = none) : opd c f L cs Q = f L cs fun d cs' => Q (.v d) cs' := by
  unfold opd
  rw [h]
structure Fr (Γ : Type) where
  n : Nat
  own : Nat -> Bool
  sl : Γ -> Nat -> Slot
abbrev Sta := List (Nat × Bool)
def md : Bool -> Slot -> Slot
  | true,.own d => .val d
  | _,s => s
structure Fits {Γ : Type} (fr : Fr Γ) (S : Sta) (γ : Γ) (L : Loc) : Prop where
  len : L.length = fr.n
  at_ : ∀ i m,S.lookup i = some m -> L[i]? = some (md m (fr.sl γ i))
  own : ∀ i d,fr.own i = false -> L[i]? ≠ some (.own d)
structure Ln {Γ α : Type} (fr : Fr Γ) (i : Nat) (R : Rp α) where
  get : Γ -> α
  set : α -> Γ -> Γ
  hget : ∀ γ,fr.sl γ i = .val (R.enc (get γ))
  hset : ∀ γ a,fr.sl (set a γ) i = .val (R.enc a)
  hoth : ∀ γ a j,j ≠ i -> fr.sl (set a γ) j = fr.sl γ j
  hown : fr.own i = false
  hlt : i < fr.n
structure OLn {Γ α : Type} (fr : Fr Γ) (i : Nat) (R : Rp α) where
  get : Γ -> List α
  set : List α -> Γ -> Γ
  hget : ∀ γ,fr.sl γ i = .own (.lst ((get γ).map R.enc))
  hset : ∀ γ a,fr.sl (set a γ) i = .own (.lst (a.map R.enc))
  hoth : ∀ γ a j,j ≠ i -> fr.sl (set a γ) j = fr.sl γ j
  hown : fr.own i = true
  hlt : i < fr.n
def subS (S S' : Sta) : Bool := S'.all fun p => S.lookup p.1 == S'.lookup p.1
theorem fPa {S : Sta} {i : Nat} {m : Bool} (h : S.lookup i = some m) : ∃ p ∈ S,p.1 = i := by
  induction S with
  | nil => cases h
  | cons p r ih =>
    by_cases e : i = p.1
    · exact ⟨p,List.mem_cons_self ..,e.symm⟩
    · rw [List.lookup_cons] at h
      have : (i == p.1) = false := by simpa using e
      rw [this] at h
      obtain ⟨q,hq,e2⟩ := ih h
      exact ⟨q,List.mem_cons_of_mem _ hq,e2⟩
theorem Fits.sub {Γ : Type} {fr : Fr Γ} {S S' : Sta} {γ : Γ} {L : Loc} (h : Fits fr S γ L) (s : subS S S' = true) : Fits fr S' γ L :=
  ⟨h.len,fun i m e => by
    obtain ⟨p,hp,rfl⟩ := fPa e
    have := List.all_eq_true.mp s p hp
    exact h.at_ _ _ (by rw [eq_of_beq this]; exact e),h.own⟩
theorem bD {S : Sta} {i j : Nat} {b : Bool} (h : j ≠ i) : List.lookup j ((i,b) :: S) = S.lookup j := by
  rw [List.lookup_cons]
  have : (j == i) = false := by simpa using h
  rw [this]
theorem bL {S : Sta} {i : Nat} {b : Bool} : List.lookup i ((i,b) :: S) = some b := by
  rw [List.lookup_cons]
  simp
theorem Fits.set {Γ α : Type} {fr : Fr Γ} {S : Sta} {γ : Γ} {L : Loc} {i : Nat} {R : Rp α} (h : Fits fr S γ L) (l : Ln fr i R) (a : α) : Fits fr ((i,false) :: S) (l.set a γ) (L.set i (.val (R.enc a))) :=
  ⟨by rw [List.length_set]; exact h.len,fun j m e => by
    by_cases ji : j = i
    · subst ji
      rw [bL] at e
      cases e
      rw [l.hset,List.getElem?_set_self (by rw [h.len]; exact l.hlt)]
      rfl
    · rw [bD ji] at e
      rw [List.getElem?_set_ne (fun q => ji q.symm),l.hoth _ _ _ ji]
      exact h.at_ j m e,fun j d e q => by
    by_cases ji : j = i
    · subst ji
      rw [List.getElem?_set_self (by rw [h.len]; exact l.hlt)] at q
      cases q
    · rw [List.getElem?_set_ne (fun q => ji q.symm)] at q
      exact h.own j d e q⟩
theorem Fits.setO {Γ α : Type} {fr : Fr Γ} {S : Sta} {γ : Γ} {L : Loc} {i : Nat} {R : Rp α} (h : Fits fr S γ L) (l : OLn fr i R) (a : List α) : Fits fr ((i,false) :: S) (l.set a γ) (L.set i (.own (.lst (a.map R.enc)))) :=
  ⟨by rw [List.length_set]; exact h.len,fun j m e => by
    by_cases ji : j = i
    · subst ji
      rw [bL] at e
      cases e
      rw [l.hset,List.getElem?_set_self (by rw [h.len]; exact l.hlt)]
      rfl
    · rw [bD ji] at e
      rw [List.getElem?_set_ne (fun q => ji q.symm),l.hoth _ _ _ ji]
      exact h.at_ j m e,fun j d e q => by
    by_cases ji : j = i
    · subst ji
      rw [l.hown] at e
      cases e
    · rw [List.getElem?_set_ne (fun q => ji q.symm)] at q
      exact h.own j d e q⟩
def wipeS (own : List Nat) (S : Sta) : Sta := S.filter fun p => !own.contains p.1
theorem fNa {own : List Nat} {S : Sta} {i : Nat} {m : Bool} (h : (wipeS own S).lookup i = some m) : own.contains i = false /\ S.lookup i = some m := by
  induction S with
  | nil => cases h
  | cons p r ih =>
    unfold wipeS at h
    rw [List.filter_cons] at h
    by_cases c : own.contains p.1 = true
    · rw [c] at h
      have := ih h
      refine ⟨this.1,?_⟩
      rw [show p = (p.1,p.2) from rfl,bD]
      · exact this.2
      · intro e
        rw [e,c] at this
        exact absurd this.1 (by decide)
    · have c' : own.contains p.1 = false := by simpa using c
      rw [c'] at h
      simp only [Bool.not_false,if_true] at h
      by_cases e : i = p.1
      · subst e
        exact ⟨c',by rw [show p = (p.1,p.2) from rfl,bL] at h ⊢; exact h⟩
      · rw [show p = (p.1,p.2) from rfl,bD e] at h ⊢
        exact ih h
theorem o9a (own : List Nat) (L : Loc) : (wipeL own L).length = L.length := by
  induction own with
  | nil => rfl
  | cons i r ih => show ((wipeL r L).set i .no).length = _; rw [List.length_set,ih]
theorem pAa {own : List Nat} {L : Loc} {i : Nat} (h : own.contains i = false) : (wipeL own L)[i]? = L[i]? := by
  induction own with
  | nil => rfl
  | cons j r ih =>
    rw [List.contains_cons,Bool.or_eq_false_iff] at h
    show ((wipeL r L).set j .no)[i]? = _
    rw [List.getElem?_set_ne (by simpa using fun e => (by simpa using h.1 : ¬ i = j) e.symm)]
    exact ih h.2
theorem pBa {own : List Nat} {L : Loc} {i : Nat} {d : D} (h : (wipeL own L)[i]? = some (.own d)) : L[i]? = some (.own d) := by
  induction own with
  | nil => exact h
  | cons j r ih =>
    change ((wipeL r L).set j .no)[i]? = _ at h
    by_cases e : j = i
    · subst e
      by_cases q : j < (wipeL r L).length
      · rw [List.getElem?_set_self q] at h
        cases h
      · rw [List.getElem?_eq_none (by rw [List.length_set]; omega)] at h
        cases h
    · rw [List.getElem?_set_ne e] at h
      exact ih h
theorem Fits.wipe {Γ : Type} {fr : Fr Γ} {S : Sta} {γ : Γ} {L : Loc} (h : Fits fr S γ L) (own : List Nat) : Fits fr (wipeS own S) γ (wipeL own L) :=
  ⟨by rw [o9a]; exact h.len,fun i m e => by
    obtain ⟨a,b⟩ := fNa e
    rw [pAa a]
    exact h.at_ i m b,fun i d e q => h.own i d e (pBa q)⟩
theorem Fits.noOwnS {Γ : Type} {fr : Fr Γ} {S : Sta} {γ : Γ} {L : Loc} (h : Fits fr S γ L) : ∀ own : List Nat,(own.all fun i => decide (i < fr.n) && !fr.own i) = true -> noOwn L own = true
  | [],_ => rfl
  | i :: r,e => by
    rw [List.all_cons,Bool.and_eq_true,Bool.and_eq_true,decide_eq_true_eq] at e
    unfold noOwn
    rw [h.noOwnS r e.2,Bool.and_true]
    have hl : i < L.length := by rw [h.len]; exact e.1.1
    have ho := fun d => h.own i d (by simpa using e.1.2)
    rw [List.getElem?_eq_getElem hl] at ho ⊢
    generalize L[i] = s at ho
    cases s with
    | own d => exact absurd rfl (ho d)
    | _ => rfl
section
variable {Γ α β γ δ ρ τ : Type}
structure PE (X : TX) (fr : Fr Γ) (S : Sta) (R : Rp α) where
  code : CE
  okay : Γ -> Prop
  val : Γ -> α
  np : code.peeks = none
  sound : ∀ γ L cs (Q : D -> Cells -> Prop),Fits fr S γ L -> okay γ -> Q (R.enc (val γ)) cs -> wpE X.G X.con code L cs Q
structure OE (X : TX) (fr : Fr Γ) (S : Sta) (R : Rp α) where
  code : CE
  okay : Γ -> Prop
  val : Γ -> α
  sound : ∀ γ L cs (Q : Opd -> Cells -> Prop),Fits fr S γ L -> okay γ -> (∀ u,OpOk u (R.enc (val γ)) -> Q u cs) -> opd code (wpE X.G X.con code) L cs Q
variable {X : TX} {fr : Fr Γ} {S : Sta} {A : Rp α} {B : Rp β} {C : Rp γ} {R : Rp ρ}
def PE.o [NoRef R] (e : PE X fr S R) : OE X fr S R := ⟨e.code,e.okay,e.val,fun γ L cs Q F o q => by
  rw [jM e.np]
  exact e.sound γ L cs _ F o (q _ (OpOk.v (NoRef.nr _)))⟩
def PE.as (e : PE X fr S A) (ok : α -> Prop) (v : α -> ρ) (h : ∀ a,ok a -> A.enc a = R.enc (v a)) : PE X fr S R := ⟨e.code,fun γ => e.okay γ /\ ok (e.val γ),fun γ => v (e.val γ),e.np,fun γ L cs Q F o q => e.sound γ L cs Q F o.1 (by rw [h _ o.2]; exact q)⟩
def OE.as (e : OE X fr S A) (ok : α -> Prop) (v : α -> ρ) (h : ∀ a,ok a -> A.enc a = R.enc (v a)) : OE X fr S R := ⟨e.code,fun γ => e.okay γ /\ ok (e.val γ),fun γ => v (e.val γ),fun γ L cs Q F o q => e.sound γ L cs Q F o.1 (by rw [h _ o.2]; exact q)⟩
def PE.lit (c : CE) (a : α) (np : c.peeks = none) (h : ∀ L cs (Q : D -> Cells -> Prop),Q (A.enc a) cs -> wpE X.G X.con c L cs Q) : PE X fr S A := ⟨c,fun _ => True,fun _ => a,np,fun γ L cs Q _ _ q => h L cs Q q⟩
def PE.int (i : Int) : PE X fr S Rp.int := .lit (.int i) i rfl fun _ _ _ q => q
def PE.nat (i : Nat) : PE X fr S Rp.nat := .lit (.int (i : Nat)) i rfl fun _ _ _ q => q
def PE.bl (b : Bool) : PE X fr S Rp.bool := .lit (.bl b) b rfl fun _ _ _ q => q
def PE.str (x : Str) : PE X fr S Rp.str := .lit (.str x) x rfl fun _ _ _ q => q
def PE.non : PE X fr S Rp.non := .lit .non () rfl fun _ _ _ q => q
def PE.var {i : Nat} (l : Ln fr i R) (h : (S.lookup i).isSome = true) : PE X fr S R := ⟨.var i,fun _ => True,l.get,rfl,fun γ L cs Q F _ q => by
  obtain ⟨m,e⟩ := Option.isSome_iff_exists.mp h
  have e2 := F.at_ i m e
  rw [l.hget] at e2
  have e3 : L[i]? = some (.val (R.enc (l.get γ))) := by rw [e2]; cases m <;> rfl
  show (match L[i]? with
    | some (.val d) => Q d cs
    | _ => False)
  rw [e3]
  exact q⟩
def OE.own {i : Nat} (l : OLn fr i R) (h : (S.lookup i).isSome = true) : OE X fr S (Rp.lst R) := ⟨.peek i,fun _ => True,l.get,fun γ L cs Q F _ q => by
  obtain ⟨m,e⟩ := Option.isSome_iff_exists.mp h
  have e2 := F.at_ i m e
  rw [l.hget] at e2
  show (match L[i]? with
    | some (.own d) => Q (.o i d) cs
    | some (.val d) => Q (.v d) cs
    | _ => False)
  rw [e2]
  cases m with
  | false => exact q _ OpOk.o
  | true => exact q _ (OpOk.v fun n h => nomatch h)⟩
def PE.frz {i : Nat} (l : OLn fr i R) (h : S.lookup i = some true) : PE X fr S (Rp.lst R) := ⟨.var i,fun _ => True,l.get,rfl,fun γ L cs Q F _ q => by
  have e2 := F.at_ i true h
  rw [l.hget] at e2
  show (match L[i]? with
    | some (.val d) => Q d cs
    | _ => False)
  rw [e2]
  exact q⟩
def PE.glob (x : Str) (a : α) (h : X.con x = some (A.enc a)) : PE X fr S A := .lit (.glob x) a rfl fun L cs Q q => by
  show (match X.con x with
    | some d => Q d cs
    | none => False)
  rw [h]
  exact q
structure Op1 (A : Rp α) (R : Rp ρ) where
  cd : CE -> CE
  okay : α -> Prop
  val : α -> ρ
  np : ∀ c,(cd c).peeks = none
  sound : ∀ (X : TX) c L cs (Q : D -> Cells -> Prop),(opd c (wpE X.G X.con c) L cs fun u cs1 => ∃ x,OpOk u (A.enc x) /\ okay x /\ Q (R.enc (val x)) cs1) -> wpE X.G X.con (cd c) L cs Q
structure Op2 (A : Rp α) (B : Rp β) (R : Rp ρ) where
  cd : CE -> CE -> CE
  okay : α -> β -> Prop
  val : α -> β -> ρ
  np : ∀ c d,(cd c d).peeks = none
  sound : ∀ (X : TX) c d L cs (Q : D -> Cells -> Prop),d.peeks = none -> (opd c (wpE X.G X.con c) L cs fun u cs1 => opd d (wpE X.G X.con d) L cs1 fun v cs2 => ∃ x y,OpOk u (A.enc x) /\ OpOk v (B.enc y) /\ okay x y /\ Q (R.enc (val x y)) cs2) -> wpE X.G X.con (cd c d) L cs Q
def PE.ap1 (f : Op1 A R) (a : OE X fr S A) : PE X fr S R := ⟨f.cd a.code,fun γ => a.okay γ /\ f.okay (a.val γ),fun γ => f.val (a.val γ),f.np _,fun γ L cs Q F o q => f.sound X _ L cs Q (a.sound γ L cs _ F o.1 fun u hu => ⟨_,hu,o.2,q⟩)⟩
def PE.ap2 [NoRef B] (f : Op2 A B R) (a : OE X fr S A) (b : PE X fr S B) : PE X fr S R := ⟨f.cd a.code b.code,fun γ => a.okay γ /\ b.okay γ /\ f.okay (a.val γ) (b.val γ),fun γ => f.val (a.val γ) (b.val γ),f.np _ _,fun γ L cs Q F o q => f.sound X _ _ L cs Q b.np (a.sound γ L cs _ F o.1 fun u hu => b.o.sound γ L cs _ F o.2.1 fun v hv => ⟨_,_,hu,hv,o.2.2,q⟩)⟩
theorem OpOk.vw {u : Opd} {d : D} (h : OpOk u d) (cs : Cells) : view cs u = d := h.1 cs
def Op1.bi (f : Bi) (oy : α -> Prop) (v : α -> ρ) (h : ∀ x,oy x -> ∃ c,c /\ biV f [A.enc x] = some (c,R.enc (v x))) : Op1 A R :=
  ⟨fun c => .bi f (.cons c .nil),oy,v,fun _ => rfl,fun X c L cs Q q => by
    show opd c (wpE X.G X.con c) L cs fun u cs1 => biK f [view cs1 u] fun d => Q d cs1
    refine aB (aA X.mono c) (fun u cs1 ⟨x,hu,ho,q⟩ => ?_) q
    obtain ⟨p,hp,e⟩ := h x ho
    show ok (biV f [view cs1 u]) _
    rw [hu.vw,e]
    exact ⟨hp,q⟩⟩
def Op2.bi (f : Bi) (oy : α -> β -> Prop) (v : α -> β -> ρ) (h : ∀ x y,oy x y -> ∃ c,c /\ biV f [A.enc x,B.enc y] = some (c,R.enc (v x y))) : Op2 A B R :=
  ⟨fun c d => .bi f (.cons c (.cons d .nil)),oy,v,fun _ _ => rfl,fun X c d L cs Q _ q => by
    show opd c (wpE X.G X.con c) L cs fun u cs1 => opd d (wpE X.G X.con d) L cs1 fun v cs2 => biK f [view cs2 u,view cs2 v] fun d => Q d cs2
    refine aB (aA X.mono c) (fun u cs1 q => aB (aA X.mono d) (fun v cs2 ⟨x,y,hu,hv,ho,q⟩ => ?_) q) q
    obtain ⟨p,hp,e⟩ := h x y ho
    show ok (biV f [view cs2 u,view cs2 v]) _
    rw [hu.vw,hv.vw,e]
    exact ⟨hp,q⟩⟩
def Op2.bin (o : BOp) (oy : α -> β -> Prop) (v : α -> β -> ρ) (h : ∀ x y,oy x y -> ∃ c,c /\ binV o (A.enc x) (B.enc y) = some (c,R.enc (v x y))) : Op2 A B R :=
  ⟨fun c d => .bin o c d,oy,v,fun _ _ => rfl,fun X c d L cs Q _ q => by
    show opd c (wpE X.G X.con c) L cs fun u cs1 => opd d (wpE X.G X.con d) L cs1 fun v cs2 => binK o (view cs2 u) (view cs2 v) fun d => Q d cs2
    refine aB (aA X.mono c) (fun u cs1 q => aB (aA X.mono d) (fun v cs2 ⟨x,y,hu,hv,ho,q⟩ => ?_) q) q
    obtain ⟨p,hp,e⟩ := h x y ho
    show ok (binV o (view cs2 u) (view cs2 v)) _
    rw [hu.vw,hv.vw,e]
    exact ⟨hp,q⟩⟩
def Op2.cmp (o : COp) (oy : α -> β -> Prop) (v : α -> β -> Bool) (h : ∀ x y,oy x y -> ∃ c,c /\ cmpV o (A.enc x) (B.enc y) = some (c,v x y)) : Op2 A B Rp.bool :=
  ⟨fun c d => .cmp o c d,oy,v,fun _ _ => rfl,fun X c d L cs Q _ q => by
    show opd c (wpE X.G X.con c) L cs fun u cs1 => opd d (wpE X.G X.con d) L cs1 fun v cs2 => cmpK o (view cs2 u) (view cs2 v) fun t => Q (.bl t) cs2
    refine aB (aA X.mono c) (fun u cs1 q => aB (aA X.mono d) (fun v cs2 ⟨x,y,hu,hv,ho,q⟩ => ?_) q) q
    obtain ⟨p,hp,e⟩ := h x y ho
    show ok (cmpV o (view cs2 u) (view cs2 v)) _
    rw [hu.vw,hv.vw,e]
    exact ⟨hp,q⟩⟩
def Op2.ix (oy : α -> β -> Prop) (v : α -> β -> ρ) (h : ∀ x y,oy x y -> ixV (A.enc x) (B.enc y) = yes (R.enc (v x y))) [NoRef B] : Op2 A B R :=
  ⟨fun c d => .ix c d,oy,v,fun _ _ => rfl,fun X c d L cs Q hn q => by
    show opd c (wpE X.G X.con c) L cs fun u cs1 => wpE X.G X.con d L cs1 fun j cs2 => ixK (view cs2 u) j fun d => Q d cs2
    refine aB (aA X.mono c) (fun u cs1 q => ?_) q
    rw [jM hn] at q
    refine aA X.mono d _ _ _ _ (fun j cs2 ⟨x,y,hu,hv,ho,q⟩ => ?_) q
    have e := h x y ho
    have ej : j = B.enc y := by
      have := hv.vw []
      rw [show view [] (.v j) = deref [] j from rfl] at this
      cases j with
      | ref n =>
        have : D.ref n = B.enc y := this
        exact this
      | _ => exact this
    show ok (ixV (view cs2 u) j) _
    rw [hu.vw,ej,e,aH]
    exact q⟩
def Op1.not : Op1 Rp.bool Rp.bool :=
  ⟨fun c => .not c,fun _ => True,fun b => !b,fun _ => rfl,fun X c L cs Q q => by
    show opd c (wpE X.G X.con c) L cs fun u cs1 => tru (view cs1 u) fun t => Q (.bl (!t)) cs1
    refine aB (aA X.mono c) (fun u cs1 ⟨x,hu,_,q⟩ => ?_) q
    rw [hu.vw]
    show ok (truV (.bl x)) _
    rw [bC,aH]
    exact q⟩
def PE.and (a b : PE X fr S Rp.bool) : PE X fr S Rp.bool := ⟨.and a.code b.code,fun γ => a.okay γ /\ (a.val γ = true -> b.okay γ),fun γ => a.val γ && b.val γ,rfl,fun γ L cs Q F o q => by
  show wpE X.G X.con a.code L cs fun d cs1 => tru (deref cs1 d) fun t => match t with
    | true => wpE X.G X.con b.code L cs1 Q
    | false => Q d cs1
  refine a.sound γ L cs _ F o.1 ?_
  show ok (truV (.bl (a.val γ))) _
  rw [bC,aH]
  cases h : a.val γ with
  | true => exact b.sound γ L cs Q F (o.2 h) (by rw [h,Bool.true_and] at q; exact q)
  | false => rw [h,Bool.false_and] at q; exact q⟩
def PE.or (a b : PE X fr S Rp.bool) : PE X fr S Rp.bool := ⟨.or a.code b.code,fun γ => a.okay γ /\ (a.val γ = false -> b.okay γ),fun γ => a.val γ || b.val γ,rfl,fun γ L cs Q F o q => by
  show wpE X.G X.con a.code L cs fun d cs1 => tru (deref cs1 d) fun t => match t with
    | true => Q d cs1
    | false => wpE X.G X.con b.code L cs1 Q
  refine a.sound γ L cs _ F o.1 ?_
  show ok (truV (.bl (a.val γ))) _
  rw [bC,aH]
  cases h : a.val γ with
  | false => exact b.sound γ L cs Q F (o.2 h) (by rw [h,Bool.false_or] at q; exact q)
  | true => rw [h,Bool.true_or] at q; exact q⟩
def PE.ite (t : OE X fr S Rp.bool) (a b : PE X fr S R) : PE X fr S R := ⟨.ife t.code a.code b.code,fun γ => t.okay γ /\ (t.val γ = true -> a.okay γ) /\ (t.val γ = false -> b.okay γ),fun γ => cond (t.val γ) (a.val γ) (b.val γ),rfl,fun γ L cs Q F o q => by
  show opd t.code (wpE X.G X.con t.code) L cs fun u cs1 => tru (view cs1 u) fun c => match c with
    | true => wpE X.G X.con a.code L cs1 Q
    | false => wpE X.G X.con b.code L cs1 Q
  refine t.sound γ L cs _ F o.1 fun u hu => ?_
  rw [hu.vw]
  show ok (truV (.bl (t.val γ))) _
  rw [bC,aH]
  cases h : t.val γ with
  | true => exact a.sound γ L cs Q F (o.2.1 h) (by rw [h] at q; exact q)
  | false => exact b.sound γ L cs Q F (o.2.2 h) (by rw [h] at q; exact q)⟩
def PE.neg (a : PE X fr S Rp.int) : PE X fr S Rp.int := ⟨.neg a.code,a.okay,fun γ => -a.val γ,rfl,fun γ L cs Q F o q => by
  show wpE X.G X.con a.code L cs fun d cs1 => match d with
    | .int i => Q (.int (-i)) cs1
    | _ => False
  exact a.sound γ L cs _ F o q⟩
structure Chn (A : Rp α) (B : Rp β) (E : Rp δ) where
  o : COp
  p : COp
  f : α -> β -> Bool
  g : β -> δ -> Bool
  hf : ∀ x y,cmpV o (A.enc x) (B.enc y) = yes (f x y)
  hg : ∀ x y,cmpV p (B.enc x) (E.enc y) = yes (g x y)
def PE.chain {E : Rp δ} (h : Chn A B E) (a : PE X fr S A) (b : PE X fr S B) (c : PE X fr S E) : PE X fr S Rp.bool :=
  ⟨.chain h.o h.p a.code b.code c.code,fun γ => a.okay γ /\ b.okay γ /\ (h.f (a.val γ) (b.val γ) = true -> c.okay γ),fun γ => h.f (a.val γ) (b.val γ) && h.g (b.val γ) (c.val γ),rfl,fun γ L cs Q F w q => by
  show wpE X.G X.con a.code L cs fun x cs1 => wpE X.G X.con b.code L cs1 fun y cs2 => cmpK h.o x y fun t => match t with
    | true => wpE X.G X.con c.code L cs2 fun z cs3 => cmpK h.p y z fun t2 => Q (.bl t2) cs3
    | false => Q (.bl false) cs2
  refine a.sound γ L cs _ F w.1 (b.sound γ L cs _ F w.2.1 ?_)
  show ok (cmpV h.o _ _) _
  rw [h.hf,aH]
  cases e : h.f (a.val γ) (b.val γ) with
  | true =>
    refine c.sound γ L cs _ F (w.2.2 e) ?_
    show ok (cmpV h.p _ _) _
    rw [h.hg,aH]
    rw [e,Bool.true_and] at q
    exact q
  | false => rw [e,Bool.false_and] at q; exact q⟩
structure PEs (X : TX) (fr : Fr Γ) (S : Sta) (E : τ -> List D) where
  code : CEs
  okay : Γ -> Prop
  val : Γ -> τ
  sound : ∀ γ L cs (Q : List D -> Cells -> Prop),Fits fr S γ L -> okay γ -> Q (E (val γ)) cs -> wpEs X.G X.con code L cs Q
def encN : Unit -> List D := fun _ => []
def encC (A : Rp α) (E : τ -> List D) : α × τ -> List D := fun p => A.enc p.1 :: E p.2
def PEs.nil : PEs X fr S encN := ⟨.nil,fun _ => True,fun _ => (),fun γ L cs Q F o q => q⟩
def PEs.cons {E : τ -> List D} (a : PE X fr S A) (r : PEs X fr S E) : PEs X fr S (encC A E) := ⟨.cons a.code r.code,fun γ => a.okay γ /\ r.okay γ,fun γ => (a.val γ,r.val γ),fun γ L cs Q F o q => a.sound γ L cs _ F o.1 (r.sound γ L cs _ F o.2 q)⟩
structure PEl (X : TX) (fr : Fr Γ) (S : Sta) (R : Rp ρ) where
  code : CEs
  okay : Γ -> Prop
  val : Γ -> List ρ
  n : Nat
  hn : ∀ γ,(val γ).length = n
  sound : ∀ γ L cs (Q : List D -> Cells -> Prop),Fits fr S γ L -> okay γ -> Q ((val γ).map R.enc) cs -> wpEs X.G X.con code L cs Q
def PEl.nil : PEl X fr S R := ⟨.nil,fun _ => True,fun _ => [],0,fun _ => rfl,fun γ L cs Q F o q => q⟩
def PEl.cons (a : PE X fr S R) (r : PEl X fr S R) : PEl X fr S R := ⟨.cons a.code r.code,fun γ => a.okay γ /\ r.okay γ,fun γ => a.val γ :: r.val γ,r.n + 1,fun γ => by rw [List.length_cons,r.hn],fun γ L cs Q F o q => a.sound γ L cs _ F o.1 (r.sound γ L cs _ F o.2 q)⟩
def PE.lst (es : PEl X fr S R) (h : decide (es.n <= 4096) = true) : PE X fr S (Rp.lst R) := ⟨.lst es.code,es.okay,es.val,rfl,fun γ L cs Q F o q => by
  show wpEs X.G X.con es.code L cs fun ds cs1 => ds.length <= sizeLine /\ Q (.lst ds) cs1
  refine es.sound γ L cs _ F o ⟨?_,q⟩
  rw [List.length_map,es.hn,aP]
  exact Nat.le_trans (of_decide_eq_true h) (by decide)⟩
def PE.tup (es : PEl X fr S R) (h : decide (es.n <= 4096) = true) : PE X fr S (Rp.tup R) := ⟨.tup es.code,es.okay,es.val,rfl,fun γ L cs Q F o q => by
  show wpEs X.G X.con es.code L cs fun ds cs1 => ds.length <= sizeLine /\ Q (.tup ds) cs1
  refine es.sound γ L cs _ F o ⟨?_,q⟩
  rw [List.length_map,es.hn,aP]
  exact Nat.le_trans (of_decide_eq_true h) (by decide)⟩
def PE.ptup (es : PEl X fr S R) (h : decide (es.n <= 4096) = true) : PE X fr S (Rp.ptup R) := ⟨.pdis es.code,es.okay,es.val,rfl,fun γ L cs Q F o q => by
  show wpEs X.G X.con es.code L cs fun ds cs1 => ds.length <= sizeLine /\ Q (.ptup ds) cs1
  refine es.sound γ L cs _ F o ⟨?_,q⟩
  rw [List.length_map,es.hn,aP]
  exact Nat.le_trans (of_decide_eq_true h) (by decide)⟩
def PE.pr (a : PE X fr S A) (b : PE X fr S B) : PE X fr S (Rp.pr A B) := ⟨.tup (.cons a.code (.cons b.code .nil)),fun γ => a.okay γ /\ b.okay γ,fun γ => (a.val γ,b.val γ),rfl,fun γ L cs Q F o q => by
  refine a.sound γ L cs _ F o.1 (b.sound γ L cs _ F o.2 ⟨?_,q⟩)
  rw [aP]
  exact (by decide : 2 <= 16777216)⟩
def PE.pr3 (a : PE X fr S A) (b : PE X fr S B) (c : PE X fr S C) : PE X fr S (Rp.pr3 A B C) := ⟨.tup (.cons a.code (.cons b.code (.cons c.code .nil))),fun γ => a.okay γ /\ b.okay γ /\ c.okay γ,fun γ => (a.val γ,b.val γ,c.val γ),rfl,fun γ L cs Q F o q => by
  refine a.sound γ L cs _ F o.1 (b.sound γ L cs _ F o.2.1 (c.sound γ L cs _ F o.2.2 ⟨?_,q⟩))
  rw [aP]
  exact (by decide : 3 <= 16777216)⟩
def Pu (G : SF) (f : Str) (ds : List D) (d : D) : Prop := ∀ cs (Q : D -> Cells -> Prop),Q d cs -> G f ds cs Q
structure PF (G : SF) (E : τ -> List D) (R : Rp ρ) where
  name : Str
  pre : τ -> Prop
  val : τ -> ρ
  holds : ∀ t,pre t -> Pu G name (E t) (R.enc (val t))
def PE.call {E : τ -> List D} (f : PF X.G E R) (as : PEs X fr S E) : PE X fr S R := ⟨.call f.name as.code,fun γ => as.okay γ /\ f.pre (as.val γ),fun γ => f.val (as.val γ),rfl,fun γ L cs Q F o q => as.sound γ L cs _ F o.1 (f.holds _ o.2 cs Q q)⟩
end
end Sp
set_option autoImplicit true
set_option autoImplicit false
namespace Sp
open PySem PySem.Spec PyProof.Rows L2
section
variable {Γ α β γ δ ρ τ : Type} {X : TX} {fr : Fr Γ} {S : Sta} {A : Rp α} {B : Rp β} {C : Rp γ} {R : Rp ρ}
theorem yt {α : Type} {z : α} {o : Vo α} (h : o = yes z) : ∃ c : Prop,c /\ o = some (c,z) := ⟨True,trivial,h⟩
theorem yo {α : Type} {z : α} {o : Vo α} {c : Prop} (hc : c) (h : o = some (c,z)) : ∃ c : Prop,c /\ o = some (c,z) := ⟨c,hc,h⟩
def T1 {α : Type} : α -> Prop := fun _ => True
def T2 {α β : Type} : α -> β -> Prop := fun _ _ => True
def iltB (x y : Int) : Bool := decide (x < y)
def ileB (x y : Int) : Bool := decide (x <= y)
def nltB (x y : Nat) : Bool := decide (x < y)
def nleB (x y : Nat) : Bool := decide (x <= y)
theorem eXa {x y : Int} : (iltB x y = true) = (x < y) := by simp [iltB]
theorem eWa {x y : Int} : (iltB x y = false) = (y <= x) := by simp [iltB]
theorem eVa {x y : Int} : (ileB x y = true) = (x <= y) := by simp [ileB]
theorem eUa {x y : Int} : (ileB x y = false) = (y < x) := by simp [ileB]
theorem f7a {x y : Nat} : (nltB x y = true) = (x < y) := by simp [nltB]
theorem f6a {x y : Nat} : (nltB x y = false) = (y <= x) := by simp [nltB]
theorem f5a {x y : Nat} : (nleB x y = true) = (x <= y) := by simp [nleB]
theorem f4a {x y : Nat} : (nleB x y = false) = (y < x) := by simp [nleB]
theorem b8a {α : Type} [DecidableEq α] {x y : α} : ((x == y) = true) = (x = y) := by simp
theorem b7a {α : Type} [DecidableEq α] {x y : α} : ((x == y) = false) = (x ≠ y) := by simp
theorem gAa {b : Bool} : ((!b) = true) = (b = false) := by simp
theorem f9a {b : Bool} : ((!b) = false) = (b = true) := by simp
theorem aTa {a b : Bool} : ((a && b) = true) = (a = true /\ b = true) := by simp
theorem hVa {a b : Bool} : ((a || b) = true) = (a = true \/ b = true) := by simp
theorem aSa {a b : Bool} : ((a && b) = false) = (a = false \/ b = false) := by cases a <;> cases b <;> simp
theorem hUa {a b : Bool} : ((a || b) = false) = (a = false /\ b = false) := by simp
theorem fWa {α : Type} [DecidableEq α] {x : α} {xs : List α} : ((xs.contains x) = true) = (x ∈ xs) := by simp
theorem fVa {α : Type} [DecidableEq α] {x : α} {xs : List α} : ((xs.contains x) = false) = (x ∉ xs) := by simp
namespace Op2
def nadd : Op2 Rp.nat Rp.nat Rp.nat := .bin .add T2 (· + ·) fun i j _ => yt (by
  show yes (D.int ((i : Int) + (j : Int))) = yes (D.int ((i + j : Nat) : Int))
  rw [Int.natCast_add])
def nshl : Op2 Rp.nat Rp.nat Rp.nat := .bin .shl (fun i j => j <= 1000000 /\ i < 2 ^ 64) (fun i j => i * 2 ^ j) fun i j h => yo (c := 0 <= (j : Int) /\ (j : Int) <= 1000000 /\ (i : Int).natAbs < 2 ^ 2000) ⟨by omega,by omega,Nat.lt_of_lt_of_le (show (i : Int).natAbs < 2 ^ 64 by simpa using h.2) (Nat.pow_le_pow_right (by decide) (by decide))⟩ (by
  show some (_,D.int ((i : Int) * 2 ^ (j : Int).toNat)) = some (_,D.int ((i * 2 ^ j : Nat) : Int))
  rw [Int.toNat_natCast,Int.natCast_mul,Int.natCast_pow]
  rfl)
def nmin : Op2 Rp.nat Rp.nat Rp.nat := .bi .min2 T2 min fun i j _ => yt (by
  show yes (D.int (if (j : Int) < i then j else i)) = yes (D.int ((min i j : Nat) : Int))
  rw [show (if (j : Int) < i then (j : Int) else i) = ((min i j : Nat) : Int) by omega])
end Op2
namespace Op2
end Op2
namespace Op2
end Op2
theorem dI [DecidableEq α] {py : α -> PyData} (h : ∀ a b,PyData.eqv (py a) (py b) = decide (a = b)) : ∀ xs ys : List α,PyData.eqvAll (xs.map py) (ys.map py) = decide (xs = ys)
  | [],[] => by simp [PyData.eqvAll]
  | [],_ :: _ => by simp [PyData.eqvAll]
  | _ :: _,[] => by simp [PyData.eqvAll]
  | x :: xs,y :: ys => by
    rw [List.map_cons,List.map_cons,PyData.eqvAll,h,dI h xs ys]
    simp
theorem eB {py : α -> PyData} {A : Rp α} (h : ∀ a,(A.enc a).py = some (py a)) : ∀ xs : List α,D.pys (xs.map A.enc) = some (xs.map py)
  | [] => rfl
  | x :: r => by
    rw [List.map_cons,D.pys,h,eB h r]
    rfl
theorem dG {n : Nat} {A : Rp α} (h : ∀ a,(A.enc a).dep <= n) : ∀ xs : List α,D.deps (xs.map A.enc) <= n
  | [] => Nat.zero_le _
  | x :: r => by
    rw [List.map_cons,D.deps]
    exact Nat.max_le.mpr ⟨h x,dG h r⟩
instance : EqR Rp.int := ⟨.int,fun _ => rfl,0,fun _ => Nat.le_refl _,fun a b => by
  simp [PyData.eqv]
  rfl⟩
instance : EqR Rp.nat := ⟨fun n => .int n,fun _ => rfl,0,fun _ => Nat.le_refl _,fun a b => by
  simp [PyData.eqv]
  exact Bool.eq_iff_iff.mpr (by simp [Int.ofNat_inj])⟩
instance : EqR Rp.bool := ⟨.bool,fun _ => rfl,0,fun _ => Nat.le_refl _,fun a b => by
  simp [PyData.eqv]
  rfl⟩
instance : EqR Rp.str := ⟨.str,fun _ => rfl,0,fun _ => Nat.le_refl _,fun a b => by
  simp [PyData.eqv]
  exact Bool.eq_iff_iff.mpr (by simp)⟩
instance [DecidableEq α] [h : EqR A] : EqR (Rp.lst A) := ⟨fun xs => .list (xs.map h.py),fun xs => by
  show (D.pys _).map PyData.list = _
  rw [eB h.hpy]
  rfl,h.dep + 1,fun xs => by
  show D.deps _ + 1 <= _
  exact Nat.succ_le_succ (dG h.hdep xs),fun a b => by
  rw [PyData.eqv]
  exact dI h.heq a b⟩
instance [DecidableEq α] [h : EqR A] : EqR (Rp.tup A) := ⟨fun xs => .tuple (xs.map h.py),fun xs => by
  show (D.pys _).map PyData.tuple = _
  rw [eB h.hpy]
  rfl,h.dep + 1,fun xs => by
  show D.deps _ + 1 <= _
  exact Nat.succ_le_succ (dG h.hdep xs),fun a b => by
  rw [PyData.eqv]
  exact dI h.heq a b⟩
instance [DecidableEq α] [h : EqR A] : EqR (Rp.ptup A) := ⟨fun xs => .tuple (xs.map h.py),fun xs => by
  show (D.pys _).map PyData.tuple = _
  rw [eB h.hpy]
  rfl,h.dep + 1,fun xs => by
  show D.deps _ + 1 <= _
  exact Nat.succ_le_succ (dG h.hdep xs),fun a b => by
  rw [PyData.eqv]
  exact dI h.heq a b⟩
instance [DecidableEq α] [h : EqR A] : EqR (Rp.vtup A) := ⟨fun xs => .tuple (xs.map h.py),fun xs => by
  show (D.pys _).map PyData.tuple = _
  rw [eB h.hpy]
  rfl,h.dep + 1,fun xs => by
  show D.deps _ + 1 <= _
  exact Nat.succ_le_succ (dG h.hdep xs),fun a b => by
  rw [PyData.eqv]
  exact dI h.heq a b⟩
instance [DecidableEq α] [DecidableEq β] [h : EqR A] [g : EqR B] : EqR (Rp.pr A B) := ⟨fun p => .tuple [h.py p.1,g.py p.2],fun p => by
  show (D.pys [_,_]).map PyData.tuple = _
  rw [D.pys,h.hpy,D.pys,g.hpy]
  rfl,max h.dep g.dep + 1,fun p => by
  show D.deps [_,_] + 1 <= _
  have := h.hdep p.1
  have := g.hdep p.2
  simp only [D.deps]
  omega,fun a b => by
  rw [PyData.eqv,PyData.eqvAll,PyData.eqvAll,PyData.eqvAll,h.heq,g.heq]
  obtain ⟨a1,a2⟩ := a
  obtain ⟨b1,b2⟩ := b
  simp⟩
instance [DecidableEq α] [DecidableEq β] [DecidableEq γ] [h : EqR A] [g : EqR B] [k : EqR C] : EqR (Rp.pr3 A B C) := ⟨fun p => .tuple [h.py p.1,g.py p.2.1,k.py p.2.2],fun p => by
  show (D.pys [_,_,_]).map PyData.tuple = _
  rw [D.pys,h.hpy,D.pys,g.hpy,D.pys,k.hpy]
  rfl,max h.dep (max g.dep k.dep) + 1,fun p => by
  show D.deps [_,_,_] + 1 <= _
  have := h.hdep p.1
  have := g.hdep p.2.1
  have := k.hdep p.2.2
  simp only [D.deps]
  omega,fun a b => by
  rw [PyData.eqv,PyData.eqvAll,PyData.eqvAll,PyData.eqvAll,PyData.eqvAll,h.heq,g.heq,k.heq]
  obtain ⟨a1,a2,a3⟩ := a
  obtain ⟨b1,b2,b3⟩ := b
  simp⟩
class NN (A : Rp α) : Prop where
  nn : ∀ a,isNon (A.enc a) = false
instance : NN Rp.int := ⟨fun _ => rfl⟩
instance : NN Rp.nat := ⟨fun _ => rfl⟩
instance : NN Rp.bool := ⟨fun _ => rfl⟩
instance : NN Rp.str := ⟨fun _ => rfl⟩
instance : NN (Rp.lst A) := ⟨fun _ => rfl⟩
instance : NN (Rp.tup A) := ⟨fun _ => rfl⟩
instance : NN (Rp.ptup A) := ⟨fun _ => rfl⟩
instance : NN (Rp.vtup A) := ⟨fun _ => rfl⟩
instance : NN (Rp.pr A B) := ⟨fun _ => rfl⟩
instance : NN (Rp.pr3 A B C) := ⟨fun _ => rfl⟩
theorem nQ {d : D} {p : PyData} (h : d.py = some p) (hn : isNon d = false) : PyData.eqv .none p = false /\ PyData.eqv p .none = false := by
  cases d with
  | non => cases hn
  | bl b => cases h; simp [PyData.eqv]
  | int b => cases h; simp [PyData.eqv]
  | str b => cases h; simp [PyData.eqv]
  | tup xs =>
    change (D.pys xs).map PyData.tuple = _ at h
    cases e : D.pys xs with
    | none => rw [e] at h; cases h
    | some ps => rw [e] at h; cases h; simp [PyData.eqv]
  | ptup xs =>
    change (D.pys xs).map PyData.tuple = _ at h
    cases e : D.pys xs with
    | none => rw [e] at h; cases h
    | some ps => rw [e] at h; cases h; simp [PyData.eqv]
  | vtup xs =>
    change (D.pys xs).map PyData.tuple = _ at h
    cases e : D.pys xs with
    | none => rw [e] at h; cases h
    | some ps => rw [e] at h; cases h; simp [PyData.eqv]
  | lst xs =>
    change (D.pys xs).map PyData.list = _ at h
    cases e : D.pys xs with
    | none => rw [e] at h; cases h
    | some ps => rw [e] at h; cases h; simp [PyData.eqv]
  | dct _ => cases h
  | dctT _ => cases h
  | ref _ => cases h
instance [DecidableEq α] [h : EqR A] [n : NN A] : EqR (Rp.opt A) := ⟨fun o => match o with
  | none => .none
  | some a => h.py a,fun o => match o with
  | none => rfl
  | some a => h.hpy a,h.dep,fun o => match o with
  | none => Nat.zero_le _
  | some a => h.hdep a,fun a b => match a,b with
  | none,none => by simp [PyData.eqv]
  | none,some b => by simp [(nQ (h.hpy b) (n.nn b)).1]
  | some a,none => by simp [(nQ (h.hpy a) (n.nn a)).2]
  | some a,some b => by simp [h.heq]⟩
theorem b9a [DecidableEq α] [h : EqR A] (a b : α) (hd : decide (h.dep <= 60) = true) : ∃ c : Prop,c /\ eqV (A.enc a) (A.enc b) = some (c,decide (a = b)) := by
  unfold eqV
  rw [h.hpy,h.hpy]
  exact ⟨_,Nat.le_trans (Nat.min_le_left _ _) (Nat.le_trans (h.hdep a) (of_decide_eq_true hd)),by show some (_,_) = _; rw [h.heq]⟩
def Op2.eq [DecidableEq α] (A : Rp α) [h : EqR A] (hd : decide (h.dep <= 60) = true) : Op2 A A Rp.bool := .cmp .eq T2 (fun a b => a == b) fun a b _ => b9a a b hd
def Op1.isN (A : Rp α) [n : NN A] : Op1 (Rp.opt A) Rp.bool := ⟨fun c => .cmp .isn c .non,T1,Option.isNone,fun _ => rfl,fun X c L cs Q q => by
  show opd c (wpE X.G X.con c) L cs fun u cs1 => cmpK .isn (view cs1 u) .non fun t => Q (.bl t) cs1
  refine aB (aA X.mono c) (fun u cs1 ⟨x,hu,_,q⟩ => ?_) q
  rw [hu.vw]
  show ok (yes (isNon _)) _
  rw [aH]
  cases x with
  | none => exact q
  | some a => rw [show isNon ((Rp.opt A).enc (some a)) = false from n.nn a]; exact q⟩
def PE.conv (e : PE X fr S A) (v : α -> ρ) (h : ∀ a,A.enc a = R.enc (v a)) : PE X fr S R := ⟨e.code,e.okay,fun γ => v (e.val γ),e.np,fun γ L cs Q F o q => e.sound γ L cs Q F o (by rw [h]; exact q)⟩
def OE.conv (e : OE X fr S A) (v : α -> ρ) (h : ∀ a,A.enc a = R.enc (v a)) : OE X fr S R := ⟨e.code,e.okay,fun γ => v (e.val γ),fun γ L cs Q F o q => e.sound γ L cs Q F o (by rw [h]; exact q)⟩
def PE.get [Inhabited α] (e : PE X fr S (Rp.opt A)) : PE X fr S A := e.as (fun o => o.isSome = true) (fun o => o.getD default) fun o h => by
  cases o with
  | none => cases h
  | some a => rfl
def OE.get [Inhabited α] (e : OE X fr S (Rp.opt A)) : OE X fr S A := e.as (fun o => o.isSome = true) (fun o => o.getD default) fun o h => by
  cases o with
  | none => cases h
  | some a => rfl
def PE.someO (e : PE X fr S A) : PE X fr S (Rp.opt A) := e.conv Option.some fun _ => rfl
def PE.noneO (A : Rp α) : PE X fr S (Rp.opt A) := .lit .non Option.none rfl fun _ _ _ q => q
def PE.up (e : PE X fr S Rp.nat) : PE X fr S Rp.int := e.conv (fun n => (n : Int)) fun _ => rfl
def OE.up (e : OE X fr S Rp.nat) : OE X fr S Rp.int := e.conv (fun n => (n : Int)) fun _ => rfl
theorem iS (xs : List Bool) : D.bools (xs.map D.bl) = some xs := by
  induction xs with
  | nil => rfl
  | cons x r ih => rw [List.map_cons,D.bools,ih]; rfl
namespace Op1
def lenL (A : Rp α) : Op1 (Rp.lst A) Rp.nat := .bi .len T1 List.length fun xs _ => yt (by
  show yes (D.int ((xs.map A.enc).length : Nat)) = _
  rw [List.length_map]
  rfl)
def lenT (A : Rp α) : Op1 (Rp.tup A) Rp.nat := .bi .len T1 List.length fun xs _ => yt (by
  show yes (D.int ((xs.map A.enc).length : Nat)) = _
  rw [List.length_map]
  rfl)
def abs : Op1 Rp.int Rp.int := .bi .abs T1 (fun i => (i.natAbs : Int)) fun i _ => yt (by
  show yes (D.int (if i < 0 then -i else i)) = yes (D.int (i.natAbs : Int))
  rw [show (if i < 0 then -i else i) = (i.natAbs : Int) by omega])
def all : Op1 (Rp.lst Rp.bool) Rp.bool := .bi .all T1 (fun bs => bs.all id) fun xs _ => yt (by
  show opt ((D.bools (xs.map D.bl)).map fun ns => D.bl (ns.all id)) = _
  rw [iS]
  rfl)
def any : Op1 (Rp.lst Rp.bool) Rp.bool := .bi .any T1 (fun bs => bs.any id) fun xs _ => yt (by
  show opt ((D.bools (xs.map D.bl)).map fun ns => D.bl (ns.any id)) = _
  rw [iS]
  rfl)
def tupL (A : Rp α) : Op1 (Rp.lst A) (Rp.tup A) := .bi .tuple T1 id fun _ _ => yt rfl
end Op1
namespace Op1
end Op1
namespace Op1
end Op1
theorem fQa [Inhabited α] {xs : List α} {i : Nat} (h : i < xs.length) : (xs.map A.enc)[i]? = some (A.enc (xs[i]?.getD default)) := by
  rw [List.getElem?_map,List.getElem?_eq_getElem h]
  rfl
namespace Op2
def ixL (A : Rp α) [Inhabited α] : Op2 (Rp.lst A) Rp.nat A := .ix (fun xs i => i < xs.length) (fun xs i => xs[i]?.getD default) fun xs i h => by
  show opt (L2.atI (xs.map A.enc) (i : Int)) = _
  rw [iR (fQa h)]
  rfl
end Op2
theorem j0a (A : Rp α) (xs : List α) (n : Nat) : (List.replicate n (xs.map A.enc)).flatten = ((List.replicate n xs).flatten).map A.enc := by
  rw [List.map_flatten,List.map_replicate]
def Op2.mulT (A : Rp α) : Op2 (Rp.tup A) Rp.nat (Rp.tup A) := .bin .mul (fun xs n => n < 2 ^ 63 /\ xs.length * n <= sizeLine) (fun xs n => (List.replicate n xs).flatten) fun xs n h => yo (c := (-(2 ^ 63) <= (n : Int) /\ (n : Int) < 2 ^ 63) /\ (xs.map A.enc).length * (n : Int).toNat <= sizeLine) ⟨by omega,by rw [List.length_map,Int.toNat_natCast]; exact h.2⟩ (by
  show some (_,D.tup (List.replicate (n : Int).toNat (xs.map A.enc)).flatten) = some (_,D.tup _)
  rw [Int.toNat_natCast,j0a])
namespace Op1
end Op1
structure Isi (A : Rp α) where
  t : Ty
  b : α -> Bool
  h : ∀ a,isiV t (A.enc a) = some (b a)
def PE.isi (s : Isi A) (e : PE X fr S A) : PE X fr S Rp.bool := ⟨.isi s.t e.code,e.okay,fun γ => s.b (e.val γ),rfl,fun γ L cs Q F o q => by
  show wpE X.G X.con e.code L cs fun d cs1 => match isiV s.t d with
    | some b => Q (.bl b) cs1
    | none => False
  refine e.sound γ L cs _ F o ?_
  rw [s.h]
  exact q⟩
structure PO (X : TX) (fr : Fr Γ) (S : Sta) where
  code : CO
  okay : Γ -> Prop
  val : Γ -> Option Nat
  sound : ∀ γ L cs (Q : Option Int -> Cells -> Prop),Fits fr S γ L -> okay γ -> Q ((val γ).map fun n : Nat => (n : Int)) cs -> wpC X.G X.con code L cs Q
def PO.no : PO X fr S := ⟨.no,T1,fun _ => .none,fun γ L cs Q F o q => q⟩
def PO.yes (e : PE X fr S Rp.nat) : PO X fr S := ⟨.yes e.code,e.okay,fun γ => .some (e.val γ),fun γ L cs Q F o q => e.sound γ L cs _ F o q⟩
structure SR (X : TX) (fr : Fr Γ) (S : Sta) (A : Rp α) where
  code : Src
  okay : Γ -> Prop
  val : Γ -> List α
  sound : ∀ γ L cs (Q : List D -> (Loc -> Cells -> Prop) -> Cells -> Prop),Fits fr S γ L -> okay γ -> (∀ st,(∀ L' c',st L' c') -> Q ((val γ).map A.enc) st cs) -> wpI X.G X.con code L cs Q
def SR.lst (o : OE X fr S (Rp.lst A)) : SR X fr S A := ⟨.val o.code,o.okay,o.val,fun γ L cs Q F h q => by
  show opd o.code (wpE X.G X.con o.code) L cs fun u cs1 => itemsK (view cs1 u) fun xs => Q xs (stays u cs1) cs1
  refine o.sound γ L cs _ F h fun u hu => ?_
  rw [hu.vw]
  show ok (Sp.yes _) _
  rw [aH]
  exact q _ (hu.2 cs)⟩
def SR.tup (o : OE X fr S (Rp.tup A)) : SR X fr S A := ⟨.val o.code,o.okay,o.val,fun γ L cs Q F h q => by
  show opd o.code (wpE X.G X.con o.code) L cs fun u cs1 => itemsK (view cs1 u) fun xs => Q xs (stays u cs1) cs1
  refine o.sound γ L cs _ F h fun u hu => ?_
  rw [hu.vw]
  show ok (Sp.yes _) _
  rw [aH]
  exact q _ (hu.2 cs)⟩
def SR.ptup (o : OE X fr S (Rp.ptup A)) : SR X fr S A := ⟨.val o.code,o.okay,o.val,fun γ L cs Q F h q => by
  show opd o.code (wpE X.G X.con o.code) L cs fun u cs1 => itemsK (view cs1 u) fun xs => Q xs (stays u cs1) cs1
  refine o.sound γ L cs _ F h fun u hu => ?_
  rw [hu.vw]
  show ok (Sp.yes _) _
  rw [aH]
  exact q _ (hu.2 cs)⟩
def SR.vtup (o : OE X fr S (Rp.vtup A)) : SR X fr S A := ⟨.val o.code,o.okay,o.val,fun γ L cs Q F h q => by
  show opd o.code (wpE X.G X.con o.code) L cs fun u cs1 => itemsK (view cs1 u) fun xs => Q xs (stays u cs1) cs1
  refine o.sound γ L cs _ F h fun u hu => ?_
  rw [hu.vw]
  show ok (Sp.yes _) _
  rw [aH]
  exact q _ (hu.2 cs)⟩
theorem iQa (a n : Nat) : rangeD (a : Int) n = (List.range' a n).map Rp.nat.enc := by
  unfold rangeD
  rw [List.range'_eq_map_range,List.map_map]
  refine List.map_congr_left fun i _ => ?_
  show D.int ((a : Int) + (i : Int)) = D.int ((a + i : Nat) : Int)
  rw [Int.natCast_add]
theorem nV (n : Nat) : rangeD 0 n = (List.range n).map Rp.nat.enc := by
  rw [show (0 : Int) = ((0 : Nat) : Int) from rfl,iQa,List.range_eq_range']
def SR.rng (e : PE X fr S Rp.nat) : SR X fr S Rp.nat := ⟨.rng1 e.code,fun γ => e.okay γ /\ e.val γ < 2 ^ 62,fun γ => List.range (e.val γ),fun γ L cs Q F h q => by
  refine e.sound γ L cs _ F h.1 ⟨⟨by omega,by omega⟩,?_⟩
  rw [Int.toNat_natCast,nV]
  exact q _ fun _ _ => trivial⟩
theorem o0 (A : Rp α) (B : Rp β) : ∀ (xs : List α) (ys : List β),zipD (xs.map A.enc) (ys.map B.enc) = (xs.zip ys).map (Rp.pr A B).enc
  | [],_ => by simp [zipD]
  | _ :: _,[] => by simp [zipD]
  | x :: xs,y :: ys => by
    rw [List.map_cons,List.map_cons,zipD,o0 A B xs ys]
    rfl
structure OI (X : TX) (fr : Fr Γ) (S : Sta) (A : Rp α) where
  code : CE
  okay : Γ -> Prop
  val : Γ -> List α
  sound : ∀ γ L cs (Q : Opd -> Cells -> Prop),Fits fr S γ L -> okay γ -> (∀ u,(∀ cs,itemsV (view cs u) = Sp.yes ((val γ).map A.enc)) -> (∀ c L' c',stays u c L' c') -> Q u cs) -> opd code (wpE X.G X.con code) L cs Q
def SR.zip (a : OI X fr S A) (b : OI X fr S B) : SR X fr S (Rp.pr A B) := ⟨.zip2 a.code b.code,fun γ => a.okay γ /\ b.okay γ,fun γ => (a.val γ).zip (b.val γ),fun γ L cs Q F h q => by
  show opd a.code (wpE X.G X.con a.code) L cs fun u cs1 => opd b.code (wpE X.G X.con b.code) L cs1 fun v cs2 => itemsK (view cs2 u) fun xs => itemsK (view cs2 v) fun ys =>
      Q (zipD xs ys) (fun L' cs' => stays u cs2 L' cs' /\ stays v cs2 L' cs') cs2
  refine a.sound γ L cs _ F h.1 fun u hu hs => b.sound γ L cs _ F h.2 fun v hv hs2 => ?_
  show ok (itemsV (view cs u)) fun xs => ok (itemsV (view cs v)) _
  rw [hu,aH,hv,aH,o0]
  exact q _ fun L' c' => ⟨hs cs L' c',hs2 cs L' c'⟩⟩
structure TG (fr : Fr Γ) (S S' : Sta) (A : Rp α) where
  code : Tg
  put : α -> Γ -> Γ
  sound : ∀ γ L a (Q : Loc -> Prop),Fits fr S γ L -> (∀ L',Fits fr S' (put a γ) L' -> Q L') -> asg code (A.enc a) L Q
def TG.nm {i : Nat} (l : Ln fr i A) : TG fr S ((i,false) :: S) A := ⟨.nm i,l.set,fun γ L a Q F q => q _ (F.set l a)⟩
def TG.pr {S1 S2 : Sta} (a : TG fr S S1 A) (b : TG fr S1 S2 B) : TG fr S S2 (Rp.pr A B) := ⟨.tp (.cons a.code (.cons b.code .nil)),fun p γ => b.put p.2 (a.put p.1 γ),fun γ L p Q F q => by
  show asgs _ [_,_] _ _
  rw [asgs]
  refine a.sound γ L p.1 _ F fun L1 F1 => ?_
  rw [asgs]
  refine b.sound _ L1 p.2 _ F1 fun L2 F2 => ?_
  rw [asgs]
  exact q _ F2⟩
def TG.pr3 {S1 S2 S3 : Sta} (a : TG fr S S1 A) (b : TG fr S1 S2 B) (c : TG fr S2 S3 C) : TG fr S S3 (Rp.pr3 A B C) := ⟨.tp (.cons a.code (.cons b.code (.cons c.code .nil))),fun p γ => c.put p.2.2 (b.put p.2.1 (a.put p.1 γ)),fun γ L p Q F q => by
  show asgs _ [_,_,_] _ _
  rw [asgs]
  refine a.sound γ L p.1 _ F fun L1 F1 => ?_
  rw [asgs]
  refine b.sound _ L1 p.2.1 _ F1 fun L2 F2 => ?_
  rw [asgs]
  refine c.sound _ L2 p.2.2 _ F2 fun L3 F3 => ?_
  rw [asgs]
  exact q _ F3⟩
def PE.comp {S' : Sta} (own : List Nat) (ho : (own.all fun i => decide (i < fr.n) && !fr.own i) = true) (src : SR X fr S A) (g : TG fr (wipeS own S) S' A) (e : PE X fr S' R) : PE X fr S (Rp.lst R) :=
  ⟨.comp own g.code src.code .no e.code,fun γ => src.okay γ /\ (src.val γ).length <= sizeLine /\ ∀ a ∈ src.val γ,e.okay (g.put a γ),fun γ => (src.val γ).map fun a => e.val (g.put a γ),rfl,fun γ L cs Q F h q => by
  show wpI X.G X.con src.code L cs fun xs st cs1 => (noOwn L own = true /\ xs.length <= sizeLine) /\ compW own g.code none (wpE X.G X.con e.code) st xs L cs1 fun ds cs2 => Q (.lst ds) cs2
  refine src.sound γ L cs _ F h.1 fun st hst => ⟨⟨F.noOwnS own ho,by rw [List.length_map]; exact h.2.1⟩,?_⟩
  have key : ∀ (xs : List α) (P : List D -> Cells -> Prop),(∀ a ∈ xs,e.okay (g.put a γ)) -> P (xs.map fun a => R.enc (e.val (g.put a γ))) cs -> compW own g.code none (wpE X.G X.con e.code) st (xs.map A.enc) L cs P := by
    intro xs
    induction xs with
    | nil => intro P _ p; exact p
    | cons x r ih =>
      intro P ho p
      rw [List.map_cons,compW]
      refine g.sound γ _ x _ (F.wipe own) fun L1 F1 => e.sound _ L1 cs _ F1 (ho x (List.mem_cons_self ..)) ⟨hst _ _,ih _ (fun a ha => ho a (List.mem_cons_of_mem _ ha)) p⟩
  refine key _ _ h.2.2 ?_
  have : (Rp.lst R).enc ((src.val γ).map fun a => e.val (g.put a γ)) = .lst ((src.val γ).map fun a => R.enc (e.val (g.put a γ))) := by
    show D.lst _ = _
    rw [List.map_map]
    rfl
  rw [<- this]
  exact q⟩
end
end Sp
set_option autoImplicit true
set_option autoImplicit false
namespace Sp
open PySem PySem.Spec PyProof.Rows L2
def BIG : Nat := 2 ^ 250
structure SX where
  at_ : Nat -> Cells -> Prop
  mono : ∀ b b' cs,b <= b' -> at_ b cs -> at_ b' cs
section
variable {Γ α β γ δ ρ τ : Type}
structure IE (X : TX) (Z : SX) (fr : Fr Γ) (S : Sta) (R : Rp ρ) where
  code : CE
  cost : Nat
  wp : Γ -> (ρ -> Prop) -> Prop
  np : code.peeks = none
  sound : ∀ γ L cs b P (Q : D -> Cells -> Prop),Fits fr S γ L -> Z.at_ b cs -> b + cost <= BIG -> wp γ P -> (∀ a cs',Z.at_ (b + cost) cs' -> P a -> Q (R.enc a) cs') -> wpE X.G X.con code L cs Q
structure IO (X : TX) (Z : SX) (fr : Fr Γ) (S : Sta) (R : Rp ρ) where
  code : CE
  cost : Nat
  wp : Γ -> (ρ -> Prop) -> Prop
  sound : ∀ γ L cs b P (Q : Opd -> Cells -> Prop),Fits fr S γ L -> Z.at_ b cs -> b + cost <= BIG -> wp γ P -> (∀ a u cs',Z.at_ (b + cost) cs' -> P a -> OpOk u (R.enc a) -> Q u cs') -> opd code (wpE X.G X.con code) L cs Q
variable {X : TX} {Z : SX} {fr : Fr Γ} {S : Sta} {A : Rp α} {B : Rp β} {C : Rp γ} {R : Rp ρ}
def PE.i (e : PE X fr S R) : IE X Z fr S R := ⟨e.code,0,fun γ P => e.okay γ /\ P (e.val γ),e.np,fun γ L cs b P Q F h _ w q => e.sound γ L cs Q F w.1 (q _ _ h w.2)⟩
def OE.i (e : OE X fr S R) : IO X Z fr S R := ⟨e.code,0,fun γ P => e.okay γ /\ P (e.val γ),fun γ L cs b P Q F h _ w q => e.sound γ L cs Q F w.1 fun u hu => q _ u _ h w.2 hu⟩
def IE.o [NoRef R] (e : IE X Z fr S R) : IO X Z fr S R := ⟨e.code,e.cost,e.wp,fun γ L cs b P Q F h hb w q => by
  rw [jM e.np]
  exact e.sound γ L cs b P _ F h hb w fun a cs' h' p => q a _ cs' h' p (OpOk.v (NoRef.nr _))⟩
def IE.conv (e : IE X Z fr S A) (v : α -> ρ) (h : ∀ a,A.enc a = R.enc (v a)) : IE X Z fr S R := ⟨e.code,e.cost,fun γ P => e.wp γ fun a => P (v a),e.np,fun γ L cs b P Q F hb hc w q => e.sound γ L cs b _ Q F hb hc w fun a cs' h' p => by rw [h]; exact q _ cs' h' p⟩
def IE.as (e : IE X Z fr S A) (oy : α -> Prop) (v : α -> ρ) (h : ∀ a,oy a -> A.enc a = R.enc (v a)) : IE X Z fr S R := ⟨e.code,e.cost,fun γ P => e.wp γ fun a => oy a /\ P (v a),e.np,fun γ L cs b P Q F hb hc w q => e.sound γ L cs b _ Q F hb hc w fun a cs' h' p => by rw [h a p.1]; exact q _ cs' h' p.2⟩
def IE.up (e : IE X Z fr S Rp.nat) : IE X Z fr S Rp.int := e.conv (fun n => (n : Int)) fun _ => rfl
def IE.someO (e : IE X Z fr S A) : IE X Z fr S (Rp.opt A) := e.conv Option.some fun _ => rfl
def IE.get [Inhabited α] (e : IE X Z fr S (Rp.opt A)) : IE X Z fr S A := e.as (fun o => o.isSome = true) (fun o => o.getD default) fun o h => by
  cases o with
  | none => cases h
  | some a => rfl
def IE.ap1 (f : Op1 A R) (a : IO X Z fr S A) : IE X Z fr S R := ⟨f.cd a.code,a.cost,fun γ P => a.wp γ fun x => f.okay x /\ P (f.val x),f.np _,fun γ L cs b P Q F h hb w q => f.sound X _ L cs Q (a.sound γ L cs b _ _ F h hb w fun x u cs' h' p hu => ⟨x,hu,p.1,q _ cs' h' p.2⟩)⟩
theorem costL {b m n : Nat} (h : b + (m + n) <= BIG) : b + m <= BIG := by omega
theorem costR {b m n : Nat} (h : b + (m + n) <= BIG) : b + m + n <= BIG := by omega
def IE.ap2 [NoRef B] (f : Op2 A B R) (a : IO X Z fr S A) (c : IE X Z fr S B) : IE X Z fr S R := ⟨f.cd a.code c.code,a.cost + c.cost,fun γ P => a.wp γ fun x => c.wp γ fun y => f.okay x y /\ P (f.val x y),f.np _ _,fun γ L cs b P Q F h hb w q => f.sound X _ _ L cs Q c.np (a.sound γ L cs b _ _ F h (costL hb) w fun x u cs1 h1 p hu => c.o.sound γ L cs1 _ _ _ F h1 (costR hb) p fun y v cs2 h2 p2 hv => ⟨x,y,hu,hv,p2.1,q _ cs2 (by rw [<- Nat.add_assoc]; exact h2) p2.2⟩)⟩
def IE.and (a c : IE X Z fr S Rp.bool) : IE X Z fr S Rp.bool := ⟨.and a.code c.code,a.cost + c.cost,fun γ P => a.wp γ fun x => (x = true -> c.wp γ P) /\ (x = false -> P false),rfl,fun γ L cs b P Q F h hb w q => by
  show wpE X.G X.con a.code L cs fun d cs1 => tru (deref cs1 d) fun t => match t with
    | true => wpE X.G X.con c.code L cs1 Q
    | false => Q d cs1
  refine a.sound γ L cs b _ _ F h (costL hb) w fun x cs1 h1 p => ?_
  show ok (truV (.bl x)) _
  rw [bC,aH]
  cases x with
  | true => exact c.sound γ L cs1 _ _ Q F h1 (costR hb) (p.1 rfl) fun y cs2 h2 p2 => q y cs2 (by rw [<- Nat.add_assoc]; exact h2) p2
  | false => exact q _ cs1 (Z.mono _ _ _ (by omega) h1) (p.2 rfl)⟩
def IE.or (a c : IE X Z fr S Rp.bool) : IE X Z fr S Rp.bool := ⟨.or a.code c.code,a.cost + c.cost,fun γ P => a.wp γ fun x => (x = true -> P true) /\ (x = false -> c.wp γ P),rfl,fun γ L cs b P Q F h hb w q => by
  show wpE X.G X.con a.code L cs fun d cs1 => tru (deref cs1 d) fun t => match t with
    | true => Q d cs1
    | false => wpE X.G X.con c.code L cs1 Q
  refine a.sound γ L cs b _ _ F h (costL hb) w fun x cs1 h1 p => ?_
  show ok (truV (.bl x)) _
  rw [bC,aH]
  cases x with
  | false => exact c.sound γ L cs1 _ _ Q F h1 (costR hb) (p.2 rfl) fun y cs2 h2 p2 => q y cs2 (by rw [<- Nat.add_assoc]; exact h2) p2
  | true => exact q _ cs1 (Z.mono _ _ _ (by omega) h1) (p.1 rfl)⟩
def IE.ite (t : IO X Z fr S Rp.bool) (a c : IE X Z fr S R) : IE X Z fr S R := ⟨.ife t.code a.code c.code,t.cost + (a.cost + c.cost),fun γ P => t.wp γ fun x => (x = true -> a.wp γ P) /\ (x = false -> c.wp γ P),rfl,fun γ L cs b P Q F h hb w q => by
  show opd t.code (wpE X.G X.con t.code) L cs fun u cs1 => tru (view cs1 u) fun c' => match c' with
    | true => wpE X.G X.con a.code L cs1 Q
    | false => wpE X.G X.con c.code L cs1 Q
  refine t.sound γ L cs b _ _ F h (costL hb) w fun x u cs1 h1 p hu => ?_
  rw [hu.vw]
  show ok (truV (.bl x)) _
  rw [bC,aH]
  cases x with
  | true => exact a.sound γ L cs1 _ _ Q F h1 (by omega) (p.1 rfl) fun y cs2 h2 p2 => q y cs2 (Z.mono _ _ _ (by omega) h2) p2
  | false => exact c.sound γ L cs1 _ _ Q F h1 (by omega) (p.2 rfl) fun y cs2 h2 p2 => q y cs2 (Z.mono _ _ _ (by omega) h2) p2⟩
def IE.neg (a : IE X Z fr S Rp.int) : IE X Z fr S Rp.int := ⟨.neg a.code,a.cost,fun γ P => a.wp γ fun x => P (-x),rfl,fun γ L cs b P Q F h hb w q => by
  show wpE X.G X.con a.code L cs fun d cs1 => match d with
    | .int i => Q (.int (-i)) cs1
    | _ => False
  exact a.sound γ L cs b _ _ F h hb w fun x cs1 h1 p => q _ cs1 h1 p⟩
structure IEs (X : TX) (Z : SX) (fr : Fr Γ) (S : Sta) (E : τ -> List D) where
  code : CEs
  cost : Nat
  wp : Γ -> (τ -> Prop) -> Prop
  sound : ∀ γ L cs b P (Q : List D -> Cells -> Prop),Fits fr S γ L -> Z.at_ b cs -> b + cost <= BIG -> wp γ P -> (∀ a cs',Z.at_ (b + cost) cs' -> P a -> Q (E a) cs') -> wpEs X.G X.con code L cs Q
def PEs.i {E : τ -> List D} (e : PEs X fr S E) : IEs X Z fr S E := ⟨e.code,0,fun γ P => e.okay γ /\ P (e.val γ),fun γ L cs b P Q F h _ w q => e.sound γ L cs Q F w.1 (q _ _ h w.2)⟩
def IEs.nil : IEs X Z fr S encN := ⟨.nil,0,fun γ P => P (),fun γ L cs b P Q F h hb w q => q _ _ h w⟩
def IEs.cons {E : τ -> List D} (a : IE X Z fr S A) (r : IEs X Z fr S E) : IEs X Z fr S (encC A E) := ⟨.cons a.code r.code,a.cost + r.cost,fun γ P => a.wp γ fun x => r.wp γ fun y => P (x,y),fun γ L cs b P Q F h hb w q => a.sound γ L cs b _ _ F h (costL hb) w fun x cs1 h1 p => r.sound γ L cs1 _ _ _ F h1 (costR hb) p fun y cs2 h2 p2 => q (x,y) cs2 (by rw [<- Nat.add_assoc]; exact h2) p2⟩
structure IEl (X : TX) (Z : SX) (fr : Fr Γ) (S : Sta) (R : Rp ρ) where
  code : CEs
  cost : Nat
  n : Nat
  wp : Γ -> (List ρ -> Prop) -> Prop
  sound : ∀ γ L cs b P (Q : List D -> Cells -> Prop),Fits fr S γ L -> Z.at_ b cs -> b + cost <= BIG -> wp γ P -> (∀ a cs',Z.at_ (b + cost) cs' -> P a -> a.length = n -> Q (a.map R.enc) cs') -> wpEs X.G X.con code L cs Q
def IEl.nil : IEl X Z fr S R := ⟨.nil,0,0,fun γ P => P [],fun γ L cs b P Q F h hb w q => q [] _ h w rfl⟩
def IEl.cons (a : IE X Z fr S R) (r : IEl X Z fr S R) : IEl X Z fr S R := ⟨.cons a.code r.code,a.cost + r.cost,r.n + 1,fun γ P => a.wp γ fun x => r.wp γ fun y => P (x :: y),fun γ L cs b P Q F h hb w q => a.sound γ L cs b _ _ F h (costL hb) w fun x cs1 h1 p => r.sound γ L cs1 _ _ _ F h1 (costR hb) p fun y cs2 h2 p2 hl => q (x :: y) cs2 (by rw [<- Nat.add_assoc]; exact h2) p2 (by rw [List.length_cons,hl])⟩
def IE.lst (es : IEl X Z fr S R) (hn : decide (es.n <= 4096) = true) : IE X Z fr S (Rp.lst R) := ⟨.lst es.code,es.cost,es.wp,rfl,fun γ L cs b P Q F h hb w q => by
  show wpEs X.G X.con es.code L cs fun ds cs1 => ds.length <= sizeLine /\ Q (.lst ds) cs1
  refine es.sound γ L cs b _ _ F h hb w fun a cs1 h1 p hl => ⟨?_,q a cs1 h1 p⟩
  rw [List.length_map,hl,aP]
  exact Nat.le_trans (of_decide_eq_true hn) (by decide)⟩
def IE.tup (es : IEl X Z fr S R) (hn : decide (es.n <= 4096) = true) : IE X Z fr S (Rp.tup R) := ⟨.tup es.code,es.cost,es.wp,rfl,fun γ L cs b P Q F h hb w q => by
  show wpEs X.G X.con es.code L cs fun ds cs1 => ds.length <= sizeLine /\ Q (.tup ds) cs1
  refine es.sound γ L cs b _ _ F h hb w fun a cs1 h1 p hl => ⟨?_,q a cs1 h1 p⟩
  rw [List.length_map,hl,aP]
  exact Nat.le_trans (of_decide_eq_true hn) (by decide)⟩
def IE.pr (a : IE X Z fr S A) (c : IE X Z fr S B) : IE X Z fr S (Rp.pr A B) := ⟨.tup (.cons a.code (.cons c.code .nil)),a.cost + c.cost,fun γ P => a.wp γ fun x => c.wp γ fun y => P (x,y),rfl,fun γ L cs b P Q F h hb w q => by
  refine a.sound γ L cs b _ _ F h (costL hb) w fun x cs1 h1 p => c.sound γ L cs1 _ _ _ F h1 (costR hb) p fun y cs2 h2 p2 => ⟨?_,q (x,y) cs2 (by rw [<- Nat.add_assoc]; exact h2) p2⟩
  rw [aP]
  exact (by decide : 2 <= 16777216)⟩
def IE.pr3 (a : IE X Z fr S A) (c : IE X Z fr S B) (e : IE X Z fr S C) : IE X Z fr S (Rp.pr3 A B C) := ⟨.tup (.cons a.code (.cons c.code (.cons e.code .nil))),a.cost + (c.cost + e.cost),fun γ P => a.wp γ fun x => c.wp γ fun y => e.wp γ fun z => P (x,y,z),rfl,fun γ L cs b P Q F h hb w q => by
  refine a.sound γ L cs b _ _ F h (costL hb) w fun x cs1 h1 p => c.sound γ L cs1 _ _ _ F h1 (by omega) p fun y cs2 h2 p2 => e.sound γ L cs2 _ _ _ F h2 (by omega) p2 fun z cs3 h3 p3 => ⟨?_,q (x,y,z) cs3 (by rw [<- Nat.add_assoc,<- Nat.add_assoc]; exact h3) p3⟩
  rw [aP]
  exact (by decide : 3 <= 16777216)⟩
def IE.call {E : τ -> List D} (f : PF X.G E R) (as : IEs X Z fr S E) : IE X Z fr S R := ⟨.call f.name as.code,as.cost,fun γ P => as.wp γ fun t => f.pre t /\ P (f.val t),rfl,fun γ L cs b P Q F h hb w q => as.sound γ L cs b _ _ F h hb w fun t cs1 h1 p => f.holds t p.1 cs1 Q (q _ cs1 h1 p.2)⟩
def Im (G : SF) (Z : SX) (f : Str) (cost : Nat) (ds : List D) (R : Rp ρ) (post : ρ -> Prop) : Prop := ∀ b cs (Q : D -> Cells -> Prop),Z.at_ b cs -> b + cost <= BIG -> (∀ r cs',Z.at_ (b + cost) cs' -> post r -> Q (R.enc r) cs') -> G f ds cs Q
structure IF (G : SF) (Z : SX) (E : τ -> List D) (R : Rp ρ) where
  name : Str
  cost : Nat
  pre : τ -> Prop
  post : τ -> ρ -> Prop
  holds : ∀ t,pre t -> Im G Z name cost (E t) R (post t)
def IE.icall {E : τ -> List D} (f : IF X.G Z E R) (as : IEs X Z fr S E) : IE X Z fr S R := ⟨.call f.name as.code,as.cost + f.cost,fun γ P => as.wp γ fun t => f.pre t /\ ∀ r,f.post t r -> P r,rfl,fun γ L cs b P Q F h hb w q => as.sound γ L cs b _ _ F h (costL hb) w fun t cs1 h1 p => f.holds t p.1 _ cs1 Q h1 (costR hb) fun r cs2 h2 p2 => q r cs2 (by rw [<- Nat.add_assoc]; exact h2) (p.2 r p2)⟩
structure ISR (X : TX) (Z : SX) (fr : Fr Γ) (S : Sta) (A : Rp α) where
  code : Src
  cost : Nat
  wp : Γ -> (List α -> Prop) -> Prop
  sound : ∀ γ L cs b P (Q : List D -> (Loc -> Cells -> Prop) -> Cells -> Prop),Fits fr S γ L -> Z.at_ b cs -> b + cost <= BIG -> wp γ P -> (∀ xs st cs',Z.at_ (b + cost) cs' -> P xs -> (∀ L' c',st L' c') -> Q (xs.map A.enc) st cs') -> wpI X.G X.con code L cs Q
def SR.i (s : SR X fr S A) : ISR X Z fr S A := ⟨s.code,0,fun γ P => s.okay γ /\ P (s.val γ),fun γ L cs b P Q F h _ w q => s.sound γ L cs Q F w.1 fun st hs => q _ st _ h w.2 hs⟩
def ISR.rng (e : IE X Z fr S Rp.nat) : ISR X Z fr S Rp.nat := ⟨.rng1 e.code,e.cost,fun γ P => e.wp γ fun n => n < 2 ^ 62 /\ P (List.range n),fun γ L cs b P Q F h hb w q => by
  refine e.sound γ L cs b _ _ F h hb w fun n cs1 h1 p => ⟨⟨by omega,by omega⟩,?_⟩
  rw [Int.toNat_natCast,nV]
  exact q _ _ _ h1 p.2 fun _ _ => trivial⟩
def ISR.lst (o : IO X Z fr S (Rp.lst A)) : ISR X Z fr S A := ⟨.val o.code,o.cost,o.wp,fun γ L cs b P Q F h hb w q => by
  show opd o.code (wpE X.G X.con o.code) L cs fun u cs1 => itemsK (view cs1 u) fun xs => Q xs (stays u cs1) cs1
  refine o.sound γ L cs b _ _ F h hb w fun xs u cs1 h1 p hu => ?_
  rw [hu.vw]
  show ok (Sp.yes _) _
  rw [aH]
  exact q _ _ _ h1 p (hu.2 cs1)⟩
def ISR.tup (o : IO X Z fr S (Rp.tup A)) : ISR X Z fr S A := ⟨.val o.code,o.cost,o.wp,fun γ L cs b P Q F h hb w q => by
  show opd o.code (wpE X.G X.con o.code) L cs fun u cs1 => itemsK (view cs1 u) fun xs => Q xs (stays u cs1) cs1
  refine o.sound γ L cs b _ _ F h hb w fun xs u cs1 h1 p hu => ?_
  rw [hu.vw]
  show ok (Sp.yes _) _
  rw [aH]
  exact q _ _ _ h1 p (hu.2 cs1)⟩
def compI (t : γ -> (Bool -> Prop) -> Prop) (e : γ -> (β -> Prop) -> Prop) (xs : List γ) (P : List β -> Prop) : Prop :=
  ∃ I : Nat -> List β -> Prop,I 0 [] /\ (∀ i a acc,xs[i]? = some a -> I i acc -> t a fun b => (b = true -> e a fun y => I (i + 1) (acc ++ [y])) /\ (b = false -> I (i + 1) acc)) /\ ∀ acc,I xs.length acc -> P acc
def IE.comp {S' : Sta} (own : List Nat) (ho : (own.all fun i => decide (i < fr.n) && !fr.own i) = true) (src : ISR X Z fr S A) (g : TG fr (wipeS own S) S' A) (e : IE X Z fr S' R) : IE X Z fr S (Rp.lst R) :=
  ⟨.comp own g.code src.code .no e.code,src.cost + 4096 * e.cost,fun γ P => src.wp γ fun xs => xs.length <= 4096 /\ compI (fun _ k => k true) (fun a k => e.wp (g.put a γ) k) xs P,rfl,fun γ L cs b P Q F h hb w q => by
  show wpI X.G X.con src.code L cs fun xs st cs1 => (noOwn L own = true /\ xs.length <= sizeLine) /\ compW own g.code none (wpE X.G X.con e.code) st xs L cs1 fun ds cs2 => Q (.lst ds) cs2
  refine src.sound γ L cs b _ _ F h (costL hb) w fun xs st cs1 h1 p hst => ⟨⟨F.noOwnS own ho,by rw [List.length_map,aP]; omega⟩,?_⟩
  obtain ⟨hl,I,i0,istep,iend⟩ := p
  have key : ∀ (r : List α) (i : Nat) (acc : List ρ) (c : Cells) (W : List D -> Cells -> Prop),xs.length = i + r.length -> (∀ j : Nat,r[j]? = xs[i + j]?) -> I i acc -> Z.at_ (b + src.cost + i * e.cost) c ->
      (∀ ys c',I xs.length (acc ++ ys) -> Z.at_ (b + src.cost + xs.length * e.cost) c' -> W (ys.map R.enc) c') -> compW own g.code none (wpE X.G X.con e.code) st (r.map A.enc) L c W := by
    intro r
    induction r with
    | nil =>
      intro i acc c W hl2 hr hI hz hw
      have : i = xs.length := by simpa using hl2.symm
      subst this
      exact hw [] c (by rw [List.append_nil]; exact hI) hz
    | cons x r ih =>
      intro i acc c W hl2 hr hI hz hw
      have hx : xs[i]? = some x := by
        have := hr 0
        simpa using this.symm
      have hil : i < xs.length := (List.getElem?_eq_some_iff.mp hx).1
      rw [List.map_cons,compW]
      refine g.sound γ _ x _ (F.wipe own) fun L1 F1 => ?_
      have hm : (i + 1) * e.cost <= 4096 * e.cost := Nat.mul_le_mul_right _ (by omega)
      rw [Nat.succ_mul] at hm
      refine e.sound _ L1 c _ _ _ F1 hz (by omega) ((istep i x acc hx hI).1 rfl) fun y c2 h2 p2 => ⟨hst _ _,?_⟩
      refine ih (i + 1) (acc ++ [y]) c2 _ (by rw [List.length_cons] at hl2; omega) (fun j => by
        have := hr (j + 1)
        rw [show i + (j + 1) = i + 1 + j by omega] at this
        simpa using this) p2 (by rw [Nat.succ_mul,<- Nat.add_assoc]; exact h2) fun ys c3 p3 h3 => hw (y :: ys) c3 (by simpa using p3) h3
  refine key xs 0 [] cs1 _ (by simp) (fun j => by rw [Nat.zero_add]) i0 (by rw [Nat.zero_mul,Nat.add_zero]; exact h1) fun ys c' p' h' => q ys c' (Z.mono _ _ _ ?_ h') (iend _ p')
  have : xs.length * e.cost <= 4096 * e.cost := Nat.mul_le_mul_right _ hl
  omega⟩
end
end Sp
set_option autoImplicit true
set_option autoImplicit false
namespace Sp
open PySem PySem.Spec PyProof.Rows L2
section
variable {Γ α β γ δ ρ τ : Type}
structure Kt (Γ ρ : Type) where
  nx : Γ -> Prop
  rt : ρ -> Prop
  bk : Γ -> Prop
  ct : Γ -> Prop
structure Goes (Z : SX) (fr : Fr Γ) (Sl S' : Sta) (R : Rp ρ) (b : Nat) (K : Kt Γ ρ) (k : En) : Prop where
  nx : ∀ γ' L' cs',Fits fr S' γ' L' -> Z.at_ b cs' -> K.nx γ' -> k.nx L' cs'
  rt : ∀ r cs',Z.at_ b cs' -> K.rt r -> k.rt (R.enc r) cs'
  bk : ∀ γ' L' cs',Fits fr Sl γ' L' -> Z.at_ b cs' -> K.bk γ' -> k.bk L' cs'
  ct : ∀ γ' L' cs',Fits fr Sl γ' L' -> Z.at_ b cs' -> K.ct γ' -> k.ct L' cs'
structure PC (X : TX) (Z : SX) (fr : Fr Γ) (Sl S S' : Sta) (R : Rp ρ) where
  code : CS
  cost : Nat
  wp : Γ -> Kt Γ ρ -> Prop
  sound : ∀ γ L cs b K (k : En),Fits fr S γ L -> Z.at_ b cs -> b + cost <= BIG -> wp γ K -> Goes Z fr Sl S' R (b + cost) K k -> wpS X.G X.con code L cs k
structure PS (X : TX) (Z : SX) (fr : Fr Γ) (Sl S S' : Sta) (R : Rp ρ) where
  code : CSs
  cost : Nat
  wp : Γ -> Kt Γ ρ -> Prop
  sound : ∀ γ L cs b K (k : En),Fits fr S γ L -> Z.at_ b cs -> b + cost <= BIG -> wp γ K -> Goes Z fr Sl S' R (b + cost) K k -> wpSs X.G X.con code L cs k
variable {X : TX} {Z : SX} {fr : Fr Γ} {Sl S S' S1 S2 : Sta} {A : Rp α} {B : Rp β} {C : Rp γ} {R : Rp ρ}
theorem Goes.le {b b' : Nat} {K : Kt Γ ρ} {k : En} (g : Goes Z fr Sl S' R b' K k) (h : b <= b') : Goes Z fr Sl S' R b K k :=
  ⟨fun γ' L' c F z n => g.nx γ' L' c F (Z.mono _ _ _ h z) n,fun r c z n => g.rt r c (Z.mono _ _ _ h z) n,fun γ' L' c F z n => g.bk γ' L' c F (Z.mono _ _ _ h z) n,fun γ' L' c F z n => g.ct γ' L' c F (Z.mono _ _ _ h z) n⟩
def PS.nil (h : subS S S' = true) : PS X Z fr Sl S S' R := ⟨.nil,0,fun γ K => K.nx γ,fun γ L cs b K k F z hb w g => g.nx γ L cs (F.sub h) z w⟩
def PS.cons (s : PC X Z fr Sl S S1 R) (r : PS X Z fr Sl S1 S' R) : PS X Z fr Sl S S' R := ⟨.cons s.code r.code,s.cost + r.cost,fun γ K => s.wp γ ⟨fun γ' => r.wp γ' K,K.rt,K.bk,K.ct⟩,fun γ L cs b K k F z hb w g => by
  show wpS X.G X.con s.code L cs { nx := fun L1 cs1 => wpSs X.G X.con r.code L1 cs1 k,rt := k.rt,bk := k.bk,ct := k.ct }
  have g' := g
  rw [<- Nat.add_assoc] at g'
  refine s.sound γ L cs b _ _ F z (costL hb) w ⟨fun γ' L' c F' z' n => r.sound γ' L' c _ K k F' z' (costR hb) n g',fun r' c z' n => g.rt r' c (Z.mono _ _ _ (by omega) z') n,fun γ' L' c F' z' n => g.bk γ' L' c F' (Z.mono _ _ _ (by omega) z') n,fun γ' L' c F' z' n => g.ct γ' L' c F' (Z.mono _ _ _ (by omega) z') n⟩⟩
def PS.last (s : PC X Z fr Sl S S' R) : PS X Z fr Sl S S' R := ⟨.cons s.code .nil,s.cost,fun γ K => s.wp γ K,fun γ L cs b K k F z hb w g => by
  show wpS X.G X.con s.code L cs { nx := fun L1 cs1 => k.nx L1 cs1,rt := k.rt,bk := k.bk,ct := k.ct }
  exact s.sound γ L cs b K _ F z hb w ⟨g.nx,g.rt,g.bk,g.ct⟩⟩
def PC.set (g : TG fr S S1 A) (e : IE X Z fr S A) : PC X Z fr Sl S S1 R := ⟨.set g.code e.code,e.cost,fun γ K => e.wp γ fun a => K.nx (g.put a γ),fun γ L cs b K k F z hb w q => by
  show wpE X.G X.con e.code L cs fun d cs1 => asg g.code d L fun L1 => k.nx L1 cs1
  exact e.sound γ L cs b _ _ F z hb w fun a cs1 z1 p => g.sound γ L a _ F fun L' F' => q.nx _ L' cs1 F' z1 p⟩
def PC.own {i : Nat} (l : OLn fr i A) (e : IE X Z fr S (Rp.lst A)) : PC X Z fr Sl S ((i,false) :: S) R := ⟨.own i e.code,e.cost,fun γ K => e.wp γ fun a => K.nx (l.set a γ),fun γ L cs b K k F z hb w q => by
  show wpE X.G X.con e.code L cs fun d cs1 => isOwn d = true /\ k.nx (L.set i (.own d)) cs1
  exact e.sound γ L cs b _ _ F z hb w fun a cs1 z1 p => ⟨rfl,q.nx _ _ cs1 (F.setO l a) z1 p⟩⟩
def frzS (is : List Nat) (S : Sta) : Sta := S.map fun p => (p.1,p.2 || is.contains p.1)
theorem fOa {is : List Nat} {S : Sta} {i : Nat} : (frzS is S).lookup i = (S.lookup i).map fun m => m || is.contains i := by
  induction S with
  | nil => rfl
  | cons p r ih =>
    show List.lookup i ((p.1,p.2 || is.contains p.1) :: frzS is r) = _
    by_cases e : i = p.1
    · subst e
      rw [bL,show p = (p.1,p.2) from rfl,bL]
      rfl
    · rw [bD e,show p = (p.1,p.2) from rfl,bD e,ih]
theorem gR : ∀ (is : List Nat) (L : Loc) (i : Nat),(frz is L)[i]? = L[i]?.map fun s => md (is.contains i) s
  | [],L,i => by
    show L[i]? = _
    cases L[i]? <;> rfl
  | j :: r,L,i => by
    unfold frz
    split
    · rename_i d hd
      rw [gR r]
      by_cases e : j = i
      · subst e
        have hl := (List.getElem?_eq_some_iff.mp hd).1
        rw [List.getElem?_set_self hl,hd]
        simp [md]
      · rw [List.getElem?_set_ne e]
        have : (List.contains (j :: r) i) = r.contains i := by
          rw [List.contains_cons]
          have : (i == j) = false := by simpa using fun q : i = j => e q.symm
          rw [this,Bool.false_or]
        rw [this]
    · rename_i hn
      rw [gR r]
      by_cases e : j = i
      · subst e
        cases h : L[j]? with
        | none => rfl
        | some s =>
          cases s with
          | own d => exact absurd h (hn d)
          | no => cases (r.contains j) <;> cases (List.contains (j :: r) j) <;> rfl
          | val d => cases (r.contains j) <;> cases (List.contains (j :: r) j) <;> rfl
      · have : (List.contains (j :: r) i) = r.contains i := by
          rw [List.contains_cons]
          have : (i == j) = false := by simpa using fun q : i = j => e q.symm
          rw [this,Bool.false_or]
        rw [this]
theorem fTa (a b : Bool) (s : Slot) : md a (md b s) = md (b || a) s := by
  cases a <;> cases b <;> cases s <;> rfl
theorem Fits.frz {γ : Γ} {L : Loc} (h : Fits fr S γ L) (is : List Nat) : Fits fr (frzS is S) γ (Sp.frz is L) :=
  ⟨by rw [gS]; exact h.len,fun i m e => by
    rw [fOa] at e
    cases e2 : S.lookup i with
    | none => rw [e2] at e; cases e
    | some m' =>
      rw [e2] at e
      cases e
      rw [gR,h.at_ i m' e2]
      show some (md _ (md _ _)) = _
      rw [fTa],fun i d e q => by
    rw [gR] at q
    cases e2 : L[i]? with
    | none => rw [e2] at q; cases q
    | some s =>
      rw [e2] at q
      cases s with
      | own d' => exact h.own i d' e e2
      | no => cases h3 : is.contains i <;> rw [h3] at q <;> cases q
      | val d' => cases h3 : is.contains i <;> rw [h3] at q <;> cases q⟩
def PC.frz (is : List Nat) (s : PC X Z fr Sl (frzS is S) S' R) : PC X Z fr Sl S S' R := ⟨.fr is s.code,s.cost,s.wp,fun γ L cs b K k F z hb w q => s.sound γ _ cs b K k (F.frz is) z hb w q⟩
theorem nJ {i : Nat} {l : OLn fr i A} {γ : Γ} {L : Loc} (F : Fits fr S γ L) (h : S.lookup i = some false) : L[i]? = some (.own (.lst ((l.get γ).map A.enc))) := by
  rw [F.at_ i false h,l.hget]
  rfl
theorem iMa {i : Nat} {d : D} {f : SE} {L : Loc} {cs : Cells} {Q : Pl -> Cells -> Prop} (h : L[i]? = some (.own d)) (q : Q (.slot i) cs) : plc (.peek i) f L cs Q := by
  show (match L[i]? with
    | some (.own d) => (fun u cs1 => match u with
      | Opd.o i _ => Q (.slot i) cs1
      | .v (.ref n) => Q (.cell n) cs1
      | .v _ => False) (.o i d) cs
    | some (.val d) => (fun u cs1 => match u with
      | Opd.o i _ => Q (.slot i) cs1
      | .v (.ref n) => Q (.cell n) cs1
      | .v _ => False) (.v d) cs
    | _ => False)
  rw [h]
  exact q
theorem lVa (A : Rp α) {xs : List α} {j : Nat} (h : j < xs.length) (a : α) : stoV (.lst (xs.map A.enc)) (.int (j : Nat)) (A.enc a) = yes (.lst ((xs.set j a).map A.enc)) := by
  have : L2.ixN (xs.map A.enc).length (j : Int) = some j := by
    unfold L2.ixN
    rw [if_pos (by omega),if_pos (by rw [List.length_map]; omega),Int.toNat_natCast]
  rw [lV this,List.map_set]
theorem lXa {i : Nat} {d : D} {L : Loc} {cs : Cells} {f : D -> Vo D} {Q : Loc -> Cells -> Prop} (h : L[i]? = some (.own d)) (q : ok (f d) fun z => isOwn z = true /\ Q (L.set i (.own z)) cs) : sto (.slot i) L cs f Q := by
  show (match L[i]? with
    | some (.own d) => ok (f d) fun z => isOwn z = true /\ Q (L.set i (.own z)) cs
    | _ => False)
  rw [h]
  exact q
def PC.setix {i : Nat} (l : OLn fr i A) (h : S.lookup i = some false) (ix : IE X Z fr S Rp.nat) (e : IE X Z fr S A) : PC X Z fr Sl S S R := ⟨.setix (.peek i) ix.code e.code,e.cost + ix.cost,fun γ K => e.wp γ fun a => ix.wp γ fun j => j < (l.get γ).length /\ K.nx (l.set ((l.get γ).set j a) γ),fun γ L cs b K k F z hb w q => by
  show wpE X.G X.con e.code L cs fun d cs1 => plc (.peek i) (wpE X.G X.con (.peek i)) L cs1 fun p cs2 => wpE X.G X.con ix.code L cs2 fun j cs3 => sto p L cs3 (fun c => stoV c j d) k.nx
  refine e.sound γ L cs b _ _ F z (costL hb) w fun a cs1 z1 p => ?_
  refine iMa (nJ (l := l) F h) (ix.sound γ L cs1 _ _ _ F z1 (costR hb) p fun j cs2 z2 p2 => ?_)
  refine lXa (nJ (l := l) F h) ?_
  show ok (stoV (.lst ((l.get γ).map A.enc)) (.int (j : Nat)) (A.enc a)) _
  rw [lVa A p2.1,aH]
  refine ⟨rfl,?_⟩
  exact q.nx _ _ cs2 ((F.setO l _).sub (by
    refine List.all_eq_true.mpr fun p hp => ?_
    by_cases e : p.1 = i
    · rw [e,bL,h]
      rfl
    · rw [bD e]
      exact beq_self_eq_true _)) (by rw [<- Nat.add_assoc]; exact z2) p2.2⟩
def PC.ret (e : IE X Z fr S R) : PC X Z fr Sl S S' R := ⟨.ret e.code,e.cost,fun γ K => e.wp γ K.rt,fun γ L cs b K k F z hb w q => by
  show wpE X.G X.con e.code L cs fun d cs1 => k.rt d cs1
  exact e.sound γ L cs b _ _ F z hb w fun a cs1 z1 p => q.rt a cs1 z1 p⟩
def PC.ifs (t : IO X Z fr S Rp.bool) (a c : PS X Z fr Sl S S' R) : PC X Z fr Sl S S' R := ⟨.ifs t.code a.code c.code,t.cost + (a.cost + c.cost),fun γ K => t.wp γ fun x => (x = true -> a.wp γ K) /\ (x = false -> c.wp γ K),fun γ L cs b K k F z hb w q => by
  show opd t.code (wpE X.G X.con t.code) L cs fun u cs1 => tru (view cs1 u) fun c' => match c' with
    | true => wpSs X.G X.con a.code L cs1 k
    | false => wpSs X.G X.con c.code L cs1 k
  refine t.sound γ L cs b _ _ F z (costL hb) w fun x u cs1 z1 p hu => ?_
  rw [hu.vw]
  show ok (truV (.bl x)) _
  rw [bC,aH]
  cases x with
  | true => exact a.sound γ L cs1 _ K k F z1 (by omega) (p.1 rfl) (q.le (by omega))
  | false => exact c.sound γ L cs1 _ K k F z1 (by omega) (p.2 rfl) (q.le (by omega))⟩
def forI (w : Γ -> Kt Γ ρ -> Prop) (put : α -> Γ -> Γ) (xs : List α) (γ : Γ) (K : Kt Γ ρ) : Prop :=
  ∃ I : Nat -> Γ -> Prop,I 0 γ /\ (∀ i x γ',xs[i]? = some x -> I i γ' -> w (put x γ') ⟨I (i + 1),K.rt,K.nx,I (i + 1)⟩) /\ ∀ γ',I xs.length γ' -> K.nx γ'
def PC.for_ (src : ISR X Z fr S A) (Sh : Sta) (hs : subS S Sh = true) (g : TG fr Sh S1 A) (body : PS X Z fr Sh S1 Sh R) : PC X Z fr Sl S Sh R := ⟨.for_ g.code src.code body.code,src.cost + 4096 * body.cost,fun γ K => src.wp γ fun xs => (body.cost = 0 \/ xs.length <= 4096) /\ forI body.wp g.put xs γ K,fun γ L cs b K k F z hb w q => by
  show wpI X.G X.con src.code L cs fun xs st cs1 => forW g.code (wpSs X.G X.con body.code) st k xs L cs1
  refine src.sound γ L cs b _ _ F z (costL hb) w fun xs st cs1 z1 p hst => ?_
  obtain ⟨hl,I,i0,istep,iend⟩ := p
  have hcost : ∀ i,i <= xs.length -> i * body.cost <= 4096 * body.cost := fun i hi => by
    rcases hl with h | h
    · rw [h,Nat.mul_zero,Nat.mul_zero]
      exact Nat.le_refl _
    · exact Nat.mul_le_mul_right _ (by omega)
  have qnx : ∀ γ' L' cs' i,i <= xs.length -> Fits fr Sh γ' L' -> Z.at_ (b + src.cost + i * body.cost) cs' -> K.nx γ' -> k.nx L' cs' := fun γ' L' cs' i hi F' z' n => q.nx γ' L' cs' F' (Z.mono _ _ _ (by have := hcost i hi; omega) z') n
  have key : ∀ (r : List α) (i : Nat) (γ' : Γ) (L' : Loc) (c : Cells),xs.length = i + r.length -> (∀ j : Nat,r[j]? = xs[i + j]?) -> I i γ' -> Fits fr Sh γ' L' -> Z.at_ (b + src.cost + i * body.cost) c -> forW g.code (wpSs X.G X.con body.code) st k (r.map A.enc) L' c := by
    intro r
    induction r with
    | nil =>
      intro i γ' L' c hl2 hr hI F' hz
      have : i = xs.length := by simpa using hl2.symm
      subst this
      exact qnx γ' L' c _ (Nat.le_refl _) F' hz (iend _ hI)
    | cons x r ih =>
      intro i γ' L' c hl2 hr hI F' hz
      have hx : xs[i]? = some x := by
        have := hr 0
        simpa using this.symm
      have hil : i < xs.length := (List.getElem?_eq_some_iff.mp hx).1
      have hm := hcost (i + 1) hil
      have e1 : b + src.cost + (i + 1) * body.cost = b + src.cost + i * body.cost + body.cost := by rw [Nat.succ_mul,<- Nat.add_assoc]
      rw [Nat.succ_mul] at hm
      rw [List.map_cons,forW]
      refine g.sound γ' L' x _ F' fun L1 F1 => ?_
      have again : ∀ γ2 L2 c2,Fits fr Sh γ2 L2 -> Z.at_ (b + src.cost + i * body.cost + body.cost) c2 -> I (i + 1) γ2 -> forW g.code (wpSs X.G X.con body.code) st k (r.map A.enc) L2 c2 := fun γ2 L2 c2 F2 z2 p2 =>
        ih (i + 1) γ2 L2 c2 (by rw [List.length_cons] at hl2; omega) (fun j => by
          have := hr (j + 1)
          rw [show i + (j + 1) = i + 1 + j by omega] at this
          simpa using this) p2 F2 (by rw [e1]; exact z2)
      exact body.sound _ L1 c _ _ _ F1 hz (by omega) (istep i x γ' hx hI)
        ⟨fun γ2 L2 c2 F2 z2 p2 => ⟨hst _ _,again γ2 L2 c2 F2 z2 p2⟩,fun r' c2 z2 p2 => q.rt r' c2 (Z.mono _ _ _ (by omega) z2) p2,fun γ2 L2 c2 F2 z2 p2 => qnx γ2 L2 c2 (i + 1) hil F2 (by rw [e1]; exact z2) p2,fun γ2 L2 c2 F2 z2 p2 => ⟨hst _ _,again γ2 L2 c2 F2 z2 p2⟩⟩
  exact key xs 0 γ L cs1 (by simp) (fun j => by rw [Nat.zero_add]) i0 (F.sub hs) (by rw [Nat.zero_mul,Nat.add_zero]; exact z1)⟩
theorem i6 {w : Γ -> Kt Γ ρ -> Prop} {put : α -> Γ -> Γ} {xs : List α} {γ : Γ} {K : Kt Γ ρ} (I : Nat -> Γ -> Prop) (h0 : I 0 γ) (hs : ∀ i x γ',xs[i]? = some x -> I i γ' -> w (put x γ') ⟨I (i + 1),K.rt,K.nx,I (i + 1)⟩) (he : ∀ γ',I xs.length γ' -> K.nx γ') : forI w put xs γ K := ⟨I,h0,hs,he⟩
abbrev TX.of (T : Tab) (k : Nat) : TX := ⟨Gf T k,T.con,bG T k⟩
def Kt.ret (P : ρ -> Prop) : Kt Γ ρ := ⟨fun _ => False,P,fun _ => False,fun _ => False⟩
theorem Im.fn {T : Tab} {k : Nat} {f : Str} {fn : Fn} (hc : T.code f = some fn) {S0 S' : Sta} {γ : Γ} {ds : List D} (body : PS (TX.of T k) Z fr [] S0 S' R) (hb : body.code = fn.body) (hl : ds.length = fn.np)
    (F : Fits fr S0 γ (ds.map .val ++ List.replicate (fn.N.length - ds.length) .no)) {post : ρ -> Prop} (w : body.wp γ (.ret post)) : Im (Gf T (k + 1)) Z f body.cost ds R post := fun b cs Q z hz q => by
  refine gf hc hl ?_
  rw [<- hb]
  exact body.sound γ _ cs b _ _ F z hz w ⟨fun _ _ _ _ _ n => n.elim,fun r c z' n => aL (q r c z' n),fun _ _ _ _ _ n => n.elim,fun _ _ _ _ _ n => n.elim⟩
theorem Im.le {G : SF} {f : Str} {c c' : Nat} {ds : List D} {post : ρ -> Prop} (h : Im G Z f c ds R post) (hc : decide (c <= c') = true) : Im G Z f c' ds R post := fun b cs Q z hb q =>
  have hc := of_decide_eq_true hc
  h b cs Q z (by omega) fun r c2 z2 p => q r c2 (Z.mono _ _ _ (by omega) z2) p
theorem Pu.fn {T : Tab} {k : Nat} {f : Str} {fn : Fn} (hc : T.code f = some fn) {S0 S' : Sta} {γ : Γ} {ds : List D} (body : (Z : SX) -> PS (TX.of T k) Z fr [] S0 S' R) (hb : ∀ Z,(body Z).code = fn.body) (h0 : ∀ Z,decide ((body Z).cost <= BIG) = true) (hl : ds.length = fn.np)
    (F : Fits fr S0 γ (ds.map .val ++ List.replicate (fn.N.length - ds.length) .no)) {v : ρ} (w : ∀ Z,(body Z).wp γ (.ret fun r => r = v)) : Pu (Gf T (k + 1)) f ds (R.enc v) := fun cs Q q => by
  have := Im.fn hc (body ⟨fun _ c => c = cs,fun _ _ _ _ h => h⟩) (hb _) hl F (w _)
  refine this 0 cs Q rfl (by rw [Nat.zero_add]; exact of_decide_eq_true (h0 _)) fun r c hc' hr => ?_
  cases hc'
  cases hr
  exact q
theorem fits_start {S0 : Sta} {γ : Γ} {L : Loc} (hl : L.length = fr.n) (h : AllP (fun p => L[p.1]? = some (md p.2 (fr.sl γ p.1))) S0) (hn : AllP (fun s => ∀ d,s ≠ Slot.own d) L) : Fits fr S0 γ L :=
  ⟨hl,fun i m e => by
    have : (i,m) ∈ S0 := by
      clear h
      induction S0 with
      | nil => cases e
      | cons p r ih =>
        by_cases q : i = p.1
        · subst q
          rw [show p = (p.1,p.2) from rfl,bL] at e
          cases e
          exact List.mem_cons_self ..
        · rw [show p = (p.1,p.2) from rfl,bD q] at e
          exact List.mem_cons_of_mem _ (ih e)
    exact h.mem _ this,fun i d _ e => hn.mem _ (List.mem_of_getElem? e) d rfl⟩
end
end Sp
set_option autoImplicit true
set_option autoImplicit false
namespace Sp
open PySem PySem.Spec PyProof.Rows L2
section
variable {Γ α β γ δ ρ τ : Type}
def Top : SX := ⟨fun _ _ => True,fun _ _ _ _ h => h⟩
def Cr (G : SF) (f : Str) (ds : List D) (H : Nat -> SX) : Prop := ∀ cs (Q : D -> Cells -> Prop),(∀ n cs',(H n).at_ 0 cs' -> Q (.ref n) cs') -> G f ds cs Q
structure CF (G : SF) (E : τ -> List D) (H : Nat -> SX) where
  name : Str
  pre : τ -> Prop
  holds : ∀ t,pre t -> Cr G name (E t) H
variable {X : TX} {Z : SX} {frs : Nat -> Fr Γ} {Sl S S' : Sta} {A : Rp α} {B : Rp β} {R : Rp ρ}
structure Frs (frs : Nat -> Fr Γ) (i : Nat) : Prop where
  hn : ∀ n,(frs n).n = (frs 0).n
  ho : ∀ n,(frs n).own = (frs 0).own
  hs : ∀ n γ j,j ≠ i -> (frs n).sl γ j = (frs 0).sl γ j
  hi : ∀ n γ,(frs n).sl γ i = .val (.ref n)
  oi : (frs 0).own i = false
  li : i < (frs 0).n
theorem Fits.in_ {i n : Nat} {γ : Γ} {L : Loc} (h : Frs frs i) (F : Fits (frs 0) S γ L) : Fits (frs n) ((i,false) :: S) γ (L.set i (.val (.ref n))) :=
  ⟨by rw [List.length_set,F.len]; exact (h.hn n).symm,fun j m e => by
    by_cases ji : j = i
    · subst ji
      rw [bL] at e
      cases e
      rw [h.hi,List.getElem?_set_self (by rw [F.len]; exact h.li)]
      rfl
    · rw [bD ji] at e
      rw [List.getElem?_set_ne (fun q => ji q.symm),h.hs _ _ _ ji]
      exact F.at_ j m e,fun j d e q => by
    rw [h.ho] at e
    by_cases ji : j = i
    · subst ji
      rw [List.getElem?_set_self (by rw [F.len]; exact h.li)] at q
      cases q
    · rw [List.getElem?_set_ne (fun q => ji q.symm)] at q
      exact F.own j d e q⟩
theorem Fits.out {i n : Nat} {γ : Γ} {L : Loc} (h : Frs frs i) (hS : S.lookup i = none) (F : Fits (frs n) S γ L) : Fits (frs 0) S γ L :=
  ⟨by rw [F.len,h.hn],fun j m e => by
    have ji : j ≠ i := fun q => by rw [q,hS] at e; cases e
    rw [<- h.hs n _ _ ji]
    exact F.at_ j m e,fun j d e => F.own j d (by rw [h.ho]; exact e)⟩
def PS.newh {E : τ -> List D} {H : Nat -> SX} (i : Nat) (h : Frs frs i) (f : CF X.G E H) (as : PEs X (frs 0) S E) (rest : (n : Nat) -> PS X (H n) (frs n) Sl ((i,false) :: S) S' R) (hcode : ∀ n,(rest n).code = (rest 0).code) (hc : ∀ n,decide ((rest n).cost <= BIG) = true) (hSl : Sl.lookup i = none) (hS' : S'.lookup i = none) : PS X Top (frs 0) Sl S S' R :=
  ⟨.cons (.set (.nm i) (.call f.name as.code)) (rest 0).code,0,fun γ K => as.okay γ /\ f.pre (as.val γ) /\ ∀ n,(rest n).wp γ K,fun γ L cs b K k F z hb w g => by
  show wpEs X.G X.con as.code L cs fun ds cs1 => X.G f.name ds cs1 fun d cs2 => wpSs X.G X.con (rest 0).code (L.set i (.val d)) cs2 k
  refine as.sound γ L cs _ F w.1 (f.holds _ w.2.1 cs _ fun n cs' z' => ?_)
  rw [<- hcode n]
  exact (rest n).sound γ _ cs' 0 K k (F.in_ h) z' (by rw [Nat.zero_add]; exact of_decide_eq_true (hc n)) (w.2.2 n)
    ⟨fun γ' L' c F' _ q => g.nx γ' L' c (F'.out h hS') trivial q,fun r c _ q => g.rt r c trivial q,fun γ' L' c F' _ q => g.bk γ' L' c (F'.out h hSl) trivial q,fun γ' L' c F' _ q => g.ct γ' L' c (F'.out h hSl) trivial q⟩⟩
theorem f3a {E : τ -> List D} {H : Nat -> SX} {i : Nat} {h : Frs frs i} {f : CF X.G E H} {as : PEs X (frs 0) S E} {rest : (n : Nat) -> PS X (H n) (frs n) Sl ((i,false) :: S) S' R} {hcode hc hSl hS'} {γ : Γ} {K : Kt Γ ρ} (h1 : as.okay γ) (h2 : f.pre (as.val γ)) (h3 : ∀ n,(rest n).wp γ K) : (PS.newh i h f as rest hcode hc hSl hS').wp γ K := ⟨h1,h2,h3⟩
end
theorem bJa {α β : Type} {e : α -> (β -> Prop) -> Prop} {xs : List α} {P : List β -> Prop} (p : α -> β -> Prop) (he : ∀ a ∈ xs,∀ k : β -> Prop,(∀ y,p a y -> k y) -> e a k)
    (h : ∀ ys : List β,ys.length = xs.length -> (∀ (i : Nat) a y,xs[i]? = some a -> ys[i]? = some y -> p a y) -> P ys) : compI (fun _ k => k true) e xs P :=
  ⟨fun i acc => acc.length = i /\ ∀ (j : Nat) a y,xs[j]? = some a -> acc[j]? = some y -> p a y,⟨rfl,fun j a y _ q => by simp at q⟩,fun i a acc ha ⟨hl,hI⟩ => ⟨fun _ => he a (List.mem_of_getElem? ha) _ fun y hy => ⟨by rw [List.length_append,hl]; rfl,fun j b z hb hz => by
    by_cases hj : j < acc.length
    · rw [List.getElem?_append_left hj] at hz
      exact hI j b z hb hz
    · rw [List.getElem?_append_right (by omega)] at hz
      have : j = i := by
        have := (List.getElem?_eq_some_iff.mp hz).1
        rw [List.length_singleton] at this
        omega
      subst this
      rw [hl,Nat.sub_self] at hz
      rw [ha] at hb
      cases hb
      cases hz
      exact hy⟩,fun h => nomatch h⟩,fun acc ⟨hl,hI⟩ => h acc hl hI⟩
theorem bKa {α β : Type} {e : α -> (β -> Prop) -> Prop} {xs : List α} {P : List β -> Prop} (p : β -> Prop) (he : ∀ a ∈ xs,∀ k : β -> Prop,(∀ y,p y -> k y) -> e a k)
    (h : ∀ ys : List β,ys.length = xs.length -> (∀ y ∈ ys,p y) -> P ys) : compI (fun _ k => k true) e xs P :=
  bJa (fun _ y => p y) he fun ys hl hy => h ys hl fun y m => by
    obtain ⟨i,hi,e⟩ := List.getElem_of_mem m
    exact hy i (xs[i]'(by omega)) y (List.getElem?_eq_getElem (by omega)) (by rw [<- e]; exact List.getElem?_eq_getElem hi)
theorem f1a {i j : Int} (h : i.natAbs < 2 ^ 100000) (h' : j.natAbs < 2 ^ 100000) : mulOk i j := f2a (k := 100000) (by decide) (by decide) h h'
end Sp
set_option autoImplicit true
set_option autoImplicit false
namespace Sp
open PySem PySem.Spec PyProof.Rows L2
theorem gOa {f : SE} {L : Loc} {cs : Cells} {Q : Opd -> Cells -> Prop} {q0 : Bool} : opd (.dnew q0) f L cs Q = f L cs fun d cs' => Q (.v d) cs' := rfl
theorem gKa {f : SE} {L : Loc} {cs : Cells} {Q : Opd -> Cells -> Prop} {q0 : List Key} {q1 : CEs} : opd (.ddis q0 q1) f L cs Q = f L cs fun d cs' => Q (.v d) cs' := rfl
theorem gPa {f : SE} {L : Loc} {cs : Cells} {Q : Opd -> Cells -> Prop} {q0 : CE} {q1 q2 : Str} : opd (.fld q0 q1 q2) f L cs Q = f L cs fun d cs' => Q (.v d) cs' := rfl
theorem g1a {f : SE} {L : Loc} {cs : Cells} {Q : Opd -> Cells -> Prop} {q0 : CE} {q1 q2 q3 : Str} {q4 : CEs} : opd (.meth q0 q1 q2 q3 q4) f L cs Q = f L cs fun d cs' => Q (.v d) cs' := rfl
theorem g5a {f : SE} {L : Loc} {cs : Cells} {Q : Opd -> Cells -> Prop} {q1 q2 : Str} {q4 : CEs} : opd (.new q1 q2 q4) f L cs Q = f L cs fun d cs' => Q (.v d) cs' := rfl
def fldK (cs : Cells) (d : D) (c f : Str) (k : D -> Prop) : Prop := match d with
  | .ref n => match cs[n]? with
    | some (.inst c' fs) => c' = c /\ match fs.lookup f with
      | some x => k x
      | none => False
    | _ => False
  | _ => False
def mthK (cs : Cells) (d : D) (c m : Str) (k : Nat -> Prop) : Prop := match d with
  | .ref n => match cs[n]? with
    | some (.inst c' fs) => (c' = c /\ fs.lookup m = none) /\ k n
    | _ => False
  | _ => False
def sfdK (cs : Cells) (d : D) (c f : Str) (v : D) (k : Cells -> Prop) : Prop := match d with
  | .ref n => match cs[n]? with
    | some (.inst c' fs) => c' = c /\ fs.length < 1000 /\ k (cs.set n (.inst c (putFd f v fs)))
    | _ => False
  | _ => False
theorem m2a {G : SF} {con : Str -> Option D} {o : CE} {c f : Str} {L : Loc} {cs : Cells} {Q : D -> Cells -> Prop} : wpE G con (.fld o c f) L cs Q = (wpE G con o L cs fun d cs1 => fldK cs1 d c f fun x => Q x cs1) := rfl
theorem nFa {G : SF} {con : Str -> Option D} {o : CE} {c m q : Str} {as : CEs} {L : Loc} {cs : Cells} {Q : D -> Cells -> Prop} : wpE G con (.meth o c m q as) L cs Q = (wpE G con o L cs fun d cs1 => mthK cs1 d c m fun n => wpEs G con as L cs1 fun ds cs2 => G q (.ref n :: ds) cs2 Q) := rfl
theorem nJa {G : SF} {con : Str -> Option D} {c q : Str} {as : CEs} {L : Loc} {cs : Cells} {Q : D -> Cells -> Prop} : wpE G con (.new c q as) L cs Q = (wpEs G con as L cs fun ds cs1 => G q (.ref cs1.length :: ds) (cs1 ++ [.inst c []]) fun d cs2 => d = .non /\ Q (.ref cs1.length) cs2) := rfl
theorem oYa {G : SF} {con : Str -> Option D} {o : CE} {c f : Str} {e : CE} {L : Loc} {cs : Cells} {k : En} : wpS G con (.setfld o c f e) L cs k = (wpE G con e L cs fun d cs1 => wpE G con o L cs1 fun x cs2 => sfdK cs2 x c f d fun cs3 => k.nx L cs3) := rfl
theorem hFa {f : SE} {L : Loc} {cs : Cells} {Q : Opd -> Cells -> Prop} {q0 : CE} : opd (.te0 q0) f L cs Q = f L cs fun d cs' => Q (.v d) cs' := rfl
theorem gYa {f : SE} {L : Loc} {cs : Cells} {Q : Opd -> Cells -> Prop} {q0 : Str} {q1 : CE} : opd (.lend q0 q1) f L cs Q = f L cs fun d cs' => Q (.v d) cs' := rfl
theorem g4a {f : SE} {L : Loc} {cs : Cells} {Q : Opd -> Cells -> Prop} {q0 : CE} : opd (.nen q0) f L cs Q = f L cs fun d cs' => Q (.v d) cs' := rfl
theorem hHa {f : SE} {L : Loc} {cs : Cells} {Q : Opd -> Cells -> Prop} {q0 : CE} : opd (.trv q0) f L cs Q = f L cs fun d cs' => Q (.v d) cs' := rfl
theorem g9a {f : SE} {L : Loc} {cs : Cells} {Q : Opd -> Cells -> Prop} {q0 : CE} : opd (.rev q0) f L cs Q = f L cs fun d cs' => Q (.v d) cs' := rfl
theorem hGa {f : SE} {L : Loc} {cs : Cells} {Q : Opd -> Cells -> Prop} {q0 : Bool} {q1 : CO} {q2 : CE} : opd (.trg q0 q1 q2) f L cs Q = f L cs fun d cs' => Q (.v d) cs' := rfl
theorem hAa {f : SE} {L : Loc} {cs : Cells} {Q : Opd -> Cells -> Prop} {q0 q1 q2 : CE} : opd (.sdef q0 q1 q2) f L cs Q = f L cs fun d cs' => Q (.v d) cs' := rfl
theorem g8a {f : SE} {L : Loc} {cs : Cells} {Q : Opd -> Cells -> Prop} {q0 : Str} {q1 : CE} : opd (.oth q0 q1) f L cs Q = f L cs fun d cs' => Q (.v d) cs' := rfl
theorem gMa {f : SE} {L : Loc} {cs : Cells} {Q : Opd -> Cells -> Prop} {q0 q1 : CE} : opd (.dget1 q0 q1) f L cs Q = f L cs fun d cs' => Q (.v d) cs' := rfl
theorem gZa {f : SE} {L : Loc} {cs : Cells} {Q : Opd -> Cells -> Prop} {q0 q1 : CE} : opd (.lidx q0 q1) f L cs Q = f L cs fun d cs' => Q (.v d) cs' := rfl
theorem hDa {f : SE} {L : Loc} {cs : Cells} {Q : Opd -> Cells -> Prop} {q0 : CE} : opd (.sset q0) f L cs Q = f L cs fun d cs' => Q (.v d) cs' := rfl
theorem gLa {f : SE} {L : Loc} {cs : Cells} {Q : Opd -> Cells -> Prop} {q0 q1 q2 : CE} : opd (.dget q0 q1 q2) f L cs Q = f L cs fun d cs' => Q (.v d) cs' := rfl
section
variable {Γ α β γ δ ρ τ κ : Type}
class KeyK (A : Rp α) where
  key : α -> Key
  hk : ∀ a,keyK (A.enc a) = some (key a)
  inj : ∀ a b,key a = key b -> a = b
class KeyT (A : Rp α) where
  key : α -> List Key
  hk : ∀ a,keyT (A.enc a) = some (key a)
  inj : ∀ a b,key a = key b -> a = b
instance : KeyK Rp.int := ⟨.inl,fun _ => rfl,fun _ _ h => Sum.inl.inj h⟩
instance : KeyK Rp.nat := ⟨fun n => .inl n,fun _ => rfl,fun _ _ h => Int.ofNat.inj (Sum.inl.inj h)⟩
instance : KeyK Rp.str := ⟨.inr,fun _ => rfl,fun _ _ h => Sum.inr.inj h⟩
theorem mO (A : Rp α) [h : KeyK A] : ∀ xs : List α,keysK (xs.map A.enc) = some (xs.map h.key)
  | [] => rfl
  | x :: r => by
    rw [List.map_cons,keysK,h.hk,mO A r]
    rfl
instance {A : Rp α} [h : KeyK A] : KeyT (Rp.tup A) := ⟨fun xs => xs.map h.key,fun xs => mO A xs,fun a b e => (List.map_inj_right h.inj).mp e⟩
section
variable [DecidableEq α]
def aGet (kvs : List (α × β)) (k : α) : Option β := (kvs.find? fun p => decide (p.1 = k)).map (·.2)
def aPut (kvs : List (α × β)) (k : α) (v : β) : List (α × β) := if (kvs.any fun p => decide (p.1 = k)) = true then kvs.map (fun p => if p.1 = k then (p.1,v) else p) else kvs ++ [(k,v)]
def encP [DecidableEq κ] (key : α -> κ) (B : Rp β) (p : α × β) : κ × D := (key p.1,B.enc p.2)
variable [DecidableEq κ] {key : α -> κ} {B : Rp β}
theorem dF (inj : ∀ a b,key a = key b -> a = b) (k : α) : ∀ kvs : List (α × β),dGet (kvs.map (encP key B)) (key k) = (aGet kvs k).map B.enc
  | [] => rfl
  | p :: r => by
    have ih := dF inj k r
    unfold dGet aGet at ih ⊢
    rw [List.map_cons,List.find?_cons,List.find?_cons]
    by_cases e : p.1 = k
    · have e2 : (encP key B p).1 = key k := congrArg key e
      simp only [e,e2,decide_true]
      rfl
    · have e2 : ¬ (encP key B p).1 = key k := fun q => e (inj _ _ q)
      simp only [e,e2,decide_false]
      exact ih
theorem kJ (inj : ∀ a b,key a = key b -> a = b) (k : α) : ∀ kvs : List (α × β),((kvs.map (encP key B)).any fun kv => decide (kv.1 = key k)) = kvs.any fun p => decide (p.1 = k)
  | [] => rfl
  | p :: r => by
    rw [List.map_cons,List.any_cons,List.any_cons,kJ inj k r]
    congr 1
    rw [decide_eq_decide]
    exact ⟨fun q => inj _ _ q,fun q => congrArg key q⟩
theorem lG (inj : ∀ a b,key a = key b -> a = b) (k : α) (v : β) (kvs : List (α × β)) : dPut (kvs.map (encP key B)) (key k) (B.enc v) = (aPut kvs k v).map (encP key B) := by
  unfold dPut aPut
  rw [kJ inj]
  split
  · rw [List.map_map,List.map_map]
    refine List.map_congr_left fun p _ => ?_
    show (if key p.1 = key k then (key p.1,B.enc v) else (key p.1,B.enc p.2)) = encP key B (if p.1 = k then (p.1,v) else p)
    by_cases e : p.1 = k
    · rw [if_pos e,if_pos (congrArg key e)]
      rfl
    · rw [if_neg e,if_neg fun q => e (inj _ _ q)]
      rfl
  · rw [List.map_append]
    rfl
end
def Rp.dct (A : Rp α) [h : KeyK A] (B : Rp β) : Rp (List (α × β)) := ⟨fun kvs => .dct (kvs.map fun p => (h.key p.1,B.enc p.2))⟩
def Rp.dctT (A : Rp α) [h : KeyT A] (B : Rp β) : Rp (List (α × β)) := ⟨fun kvs => .dctT (kvs.map fun p => (h.key p.1,B.enc p.2))⟩
instance {A : Rp α} [KeyK A] {B : Rp β} : NoRef (Rp.dct A B) := ⟨fun _ _ h => nomatch h⟩
instance {A : Rp α} [KeyT A] {B : Rp β} : NoRef (Rp.dctT A B) := ⟨fun _ _ h => nomatch h⟩
instance {A : Rp α} [KeyK A] {B : Rp β} : NN (Rp.dct A B) := ⟨fun _ => rfl⟩
instance {A : Rp α} [KeyT A] {B : Rp β} : NN (Rp.dctT A B) := ⟨fun _ => rfl⟩
class Dic [DecidableEq α] (R : Rp (List (α × β))) (A : Rp α) (B : Rp β) where
  d : ∀ x,isDct (R.enc x) = true
  own : ∀ x,isOwn (R.enc x) = true
  get : ∀ x k,dAt (R.enc x) (A.enc k) = some ((aGet x k).map B.enc)
  ix : ∀ x k v,aGet x k = some v -> ixV (R.enc x) (A.enc k) = yes (B.enc v)
  sto : ∀ x k v,∃ c : Prop,(x.length < sizeLine -> c) /\ stoV (R.enc x) (A.enc k) (B.enc v) = some (c,R.enc (aPut x k v))
instance [DecidableEq α] {A : Rp α} [h : KeyK A] {B : Rp β} : Dic (Rp.dct A B) A B where
  d := fun _ => rfl
  own := fun _ => rfl
  get := fun x k => by
    show (keyK (A.enc k)).map (dGet _) = _
    rw [h.hk]
    exact congrArg some (dF h.inj k x)
  ix := fun x k v e => by
    show (match keyK (A.enc k) with
      | some k => opt (dGet _ k)
      | none => none) = _
    rw [h.hk]
    show opt (dGet (x.map (encP h.key B)) (h.key k)) = _
    rw [dF h.inj,e]
    rfl
  sto := fun x k v => ⟨_,fun q => q,by
    show (match keyK (A.enc k) with
      | some k => some (_,D.dct (dPut _ k _))
      | none => none) = _
    rw [h.hk]
    show some (_,D.dct (dPut (x.map (encP h.key B)) (h.key k) (B.enc v))) = _
    rw [lG h.inj]
    rw [List.length_map]
    rfl⟩
instance [DecidableEq α] {A : Rp α} [h : KeyT A] {B : Rp β} : Dic (Rp.dctT A B) A B where
  d := fun _ => rfl
  own := fun _ => rfl
  get := fun x k => by
    show (keyT (A.enc k)).map (dGet _) = _
    rw [h.hk]
    exact congrArg some (dF h.inj k x)
  ix := fun x k v e => by
    show (match keyT (A.enc k) with
      | some k => opt (dGet _ k)
      | none => none) = _
    rw [h.hk]
    show opt (dGet (x.map (encP h.key B)) (h.key k)) = _
    rw [dF h.inj,e]
    rfl
  sto := fun x k v => ⟨_,fun q => q,by
    show (match keyT (A.enc k) with
      | some k => some (_,D.dctT (dPut _ k _))
      | none => none) = _
    rw [h.hk]
    show some (_,D.dctT (dPut (x.map (encP h.key B)) (h.key k) (B.enc v))) = _
    rw [lG h.inj]
    rw [List.length_map]
    rfl⟩
variable {X : TX} {Z : SX} {fr : Fr Γ} {frs : Nat -> Fr Γ} {Sl S S' S1 S2 : Sta} {A : Rp α} {B : Rp β} {C : Rp γ} {R : Rp ρ}
structure OMn {Γ α : Type} (fr : Fr Γ) (i : Nat) (R : Rp α) where
  get : Γ -> α
  set : α -> Γ -> Γ
  hget : ∀ γ,fr.sl γ i = .own (R.enc (get γ))
  hset : ∀ γ a,fr.sl (set a γ) i = .own (R.enc a)
  hoth : ∀ γ a j,j ≠ i -> fr.sl (set a γ) j = fr.sl γ j
  hown : fr.own i = true
  hlt : i < fr.n
class Ow (R : Rp α) : Prop where
  own : ∀ a,isOwn (R.enc a) = true
instance [KeyK A] : Ow (Rp.dct A B) := ⟨fun _ => rfl⟩
instance [KeyT A] : Ow (Rp.dctT A B) := ⟨fun _ => rfl⟩
instance : Ow (Rp.lst A) := ⟨fun _ => rfl⟩
def Op2.addS : Op2 Rp.str Rp.str Rp.str := .bin .add (fun x y => x.length + y.length <= sizeLine) (fun x y => x ++ y) fun _ _ h => ⟨_,h,rfl⟩
def Op1.strI : Op1 Rp.int Rp.str := .bi .str (fun i => i.natAbs.log2 < 1920) (fun i => toString i) fun _ h => ⟨_,h,rfl⟩
theorem o_sm {f : SE} {L : Loc} {cs : Cells} {Q : Opd -> Cells -> Prop} {q0 : SM} {q1 q2 : CE} : opd (.sm q0 q1 q2) f L cs Q = f L cs fun d cs' => Q (.v d) cs' := rfl
theorem gNa {f : SE} {L : Loc} {cs : Cells} {Q : Opd -> Cells -> Prop} {q0 q1 q2 : CE} : opd (.dgetn q0 q1 q2) f L cs Q = f L cs fun d cs' => Q (.v d) cs' := rfl
theorem hCa {f : SE} {L : Loc} {cs : Cells} {Q : Opd -> Cells -> Prop} {q1 q2 : CE} : opd (.six q1 q2) f L cs Q = f L cs fun d cs' => Q (.v d) cs' := rfl
theorem hBa {f : SE} {L : Loc} {cs : Cells} {Q : Opd -> Cells -> Prop} {q0 : Bool} {q1 q2 : CE} : opd (.sin q0 q1 q2) f L cs Q = f L cs fun d cs' => Q (.v d) cs' := rfl
theorem gWa {f : SE} {L : Loc} {cs : Cells} {Q : Opd -> Cells -> Prop} {q0 : Str} {q1 : CE} : opd (.kix q0 q1) f L cs Q = f L cs fun d cs' => Q (.v d) cs' := rfl
theorem gUa {f : SE} {L : Loc} {cs : Cells} {Q : Opd -> Cells -> Prop} {q0 : Str} {q1 q2 : CE} : opd (.kget q0 q1 q2) f L cs Q = f L cs fun d cs' => Q (.v d) cs' := rfl
theorem gVa {f : SE} {L : Loc} {cs : Cells} {Q : Opd -> Cells -> Prop} {q0 : Bool} {q1 : Str} {q2 : CE} : opd (.kin q0 q1 q2) f L cs Q = f L cs fun d cs' => Q (.v d) cs' := rfl
theorem gXa {f : SE} {L : Loc} {cs : Cells} {Q : Opd -> Cells -> Prop} {q0 : Bool} {q1 : Str} {q2 : CE} : opd (.kmem q0 q1 q2) f L cs Q = f L cs fun d cs' => Q (.v d) cs' := rfl
theorem oI : ∀ ss : List Str,D.strs (ss.map Rp.str.enc) = some ss
  | [] => rfl
  | s :: r => by
    rw [List.map_cons]
    show (D.strs (r.map Rp.str.enc)).map (s :: ·) = _
    rw [oI r]
    rfl
def signs (x : Str) : List Str := x.cps.toList.map fun c => ⟨#[c]⟩
def Op1.joinL (sep : Str) : Op1 (Rp.lst Rp.str) Rp.str := ⟨fun c => .sm .join (.str sep) c,fun ss => (ss.map (·.length)).sum + ss.length * sep.length <= 16777216,fun ss => PySem.Txt.join sep ss,fun _ => rfl,fun X c L cs Q q => by
  show isSt (D.str sep) = true /\ opd c (wpE X.G X.con c) L cs fun u cs2 => ok (smV .join (.str sep) (view cs2 u)) fun r => Q r cs2
  refine ⟨rfl,aB (aA X.mono c) (fun u cs1 ⟨ss,hu,ho,q⟩ => ?_) q⟩
  rw [hu.vw]
  show ok (match D.strs (ss.map Rp.str.enc) with
    | some ss => some ((ss.map (·.length)).sum + ss.length * sep.length <= 16777216,D.str (PySem.Txt.join sep ss))
    | none => none) _
  rw [oI]
  exact ⟨ho,q⟩⟩
def PE.split (x y : PE X fr S Rp.str) : PE X fr S (Rp.lst Rp.str) := ⟨.sm .split x.code y.code,fun γ => x.okay γ /\ y.okay γ /\ ((y.val γ).length == 0) = false /\ (x.val γ).length + 2 <= sizeLine,fun γ => PySem.Txt.split (x.val γ) (y.val γ),rfl,fun γ L cs Q F w q => by
  show wpE X.G X.con x.code L cs fun d cs1 => isSt d = true /\ opd y.code (wpE X.G X.con y.code) L cs1 fun u cs2 => ok (smV .split d (view cs2 u)) fun r => Q r cs2
  refine x.sound γ L cs _ F w.1 ⟨rfl,y.o.sound γ L cs _ F w.2.1 fun u hu => ?_⟩
  rw [hu.vw]
  exact ⟨w.2.2,q⟩⟩
def ddF (l : List (Int × Str)) : Option Nat -> Option Str
  | none => none
  | some n => (l.find? fun p => decide (p.1 = (n : Int))).map (·.2)
def dkK : List (Int × Str) -> List Key
  | [] => []
  | p :: r => .inl p.1 :: dkK r
def dkC : List (Int × Str) -> CEs
  | [] => .nil
  | p :: r => .cons (.str p.2) (dkC r)
theorem lL : ∀ l : List (Int × Str),(dkK l).zip (l.map fun p => D.str p.2) = l.map fun p => ((.inl p.1 : Key),D.str p.2)
  | [] => rfl
  | p :: r => by rw [dkK,List.map_cons,List.map_cons,List.zip_cons_cons,lL r]
theorem lK {G : SF} {con : Str -> Option D} {L : Loc} {cs : Cells} : ∀ (l : List (Int × Str)) (Q : List D -> Cells -> Prop),Q (l.map fun p => D.str p.2) cs -> wpEs G con (dkC l) L cs Q
  | [],_,q => q
  | p :: r,Q,q => lK r (fun ds c => Q (.str p.2 :: ds) c) q
theorem b4a (l : List (Int × Str)) (n : Nat) : dGet (l.map fun p => ((.inl p.1 : Key),D.str p.2)) (.inl (n : Int)) = (ddF l (some n)).map D.str := by
  induction l with
  | nil => rfl
  | cons p r ih =>
    unfold dGet ddF at ih ⊢
    dsimp only at ih ⊢
    rw [List.map_cons,List.find?_cons,List.find?_cons]
    by_cases h : p.1 = (n : Int)
    · rw [decide_eq_true h,decide_eq_true (congrArg Sum.inl h)]
      rfl
    · rw [decide_eq_false h,decide_eq_false fun z => h (Sum.inl.inj z)]
      exact ih
def PE.getn (l : List (Int × Str)) (h : dAll [] (l.map fun p => ((.inl p.1 : Key),D.str p.2)) = l.map fun p => ((.inl p.1 : Key),D.str p.2)) (e : PE X fr S Rp.nat.opt) (z : Str) : PE X fr S Rp.str := ⟨.dgetn (.ddis (dkK l) (dkC l)) e.code (.str z),e.okay,fun γ => (ddF l (e.val γ)).getD z,rfl,fun γ L cs Q F w q => by
  show wpEs X.G X.con (dkC l) L cs fun ds cs1 => isDct (view cs1 (.v (.dct (dAll [] ((dkK l).zip ds))))) = true /\ wpE X.G X.con e.code L cs1 fun kd cs2 => match get2V (view cs2 (.v (.dct (dAll [] ((dkK l).zip ds))))) kd (.str z) with
    | some r => Q r cs2
    | none => False
  refine lK l _ ?_
  rw [lL,h]
  refine ⟨rfl,e.sound γ L cs _ F w ?_⟩
  cases hv : e.val γ with
  | none =>
    rw [hv] at q
    exact q
  | some n =>
    rw [hv] at q
    have e1 : get2V (view cs (.v (.dct (l.map fun p => ((.inl p.1 : Key),D.str p.2))))) (Rp.nat.opt.enc (some n)) (.str z) = some (D.str ((ddF l (some n)).getD z)) := by
      show ((some (dGet (l.map fun p => ((.inl p.1 : Key),D.str p.2)) (.inl (n : Int)))).map fun o => o.getD (D.str z)) = _
      rw [b4a]
      cases ddF l (some n) <;> rfl
    rw [e1]
    exact q⟩
def kdF (l : List (Str × ρ)) (k : Str) : Option ρ := (l.find? fun p => decide (p.1 = k)).map (·.2)
theorem e4a (l : List (Str × ρ)) (k : Str) : dGet (l.map fun p => ((.inr p.1 : Key),R.enc p.2)) (.inr k) = (kdF l k).map R.enc := by
  induction l with
  | nil => rfl
  | cons p r ih =>
    unfold dGet kdF at ih ⊢
    rw [List.map_cons,List.find?_cons,List.find?_cons]
    by_cases h : p.1 = k
    · rw [decide_eq_true h,decide_eq_true (congrArg Sum.inr h)]
      rfl
    · rw [decide_eq_false h,decide_eq_false fun z => h (Sum.inr.inj z)]
      exact ih
def PE.kget (R : Rp ρ) (x : Str) (l : List (Str × ρ)) (h : X.con x = some (.dct (l.map fun p => ((.inr p.1 : Key),R.enc p.2)))) (e : PE X fr S Rp.str) (z : PE X fr S R) : PE X fr S R := ⟨.kget x e.code z.code,fun γ => e.okay γ /\ z.okay γ,fun γ => (kdF l (e.val γ)).getD (z.val γ),rfl,fun γ L cs Q F w q => by
  show wpE X.G X.con e.code L cs fun d cs1 => wpE X.G X.con z.code L cs1 fun f cs2 => ok (kgetV (X.con x) d f) fun r => Q r cs2
  refine e.sound γ L cs _ F w.1 (z.sound γ L cs _ F w.2 ?_)
  rw [h]
  show ok (some (True,(dGet (l.map fun p => ((.inr p.1 : Key),R.enc p.2)) (.inr (e.val γ))).getD (R.enc (z.val γ)))) fun r => Q r cs
  rw [e4a]
  cases hv : kdF l (e.val γ) with
  | none => rw [hv] at q; exact ⟨trivial,q⟩
  | some r => rw [hv] at q; exact ⟨trivial,q⟩⟩
def SR.chars (e : PE X fr S Rp.str) : SR X fr S Rp.str := ⟨.chars e.code,e.okay,fun γ => signs (e.val γ),fun γ L cs Q F h q => by
  show wpE X.G X.con e.code L cs fun d cs1 => match d with
    | .str x => Q (x.cps.toList.map fun c => .str ⟨#[c]⟩) (fun _ _ => True) cs1
    | _ => False
  refine e.sound γ L cs _ F h ?_
  have := q (fun _ _ => True) fun _ _ => trivial
  unfold signs at this
  rw [List.map_map] at this
  exact this⟩
class Tix (A : Rp α) [DecidableEq α] where
  py : α -> PyData
  hpy : ∀ a,(A.enc a).py = some (py a)
  ht : ∀ a,∃ ys,A.enc a = .tup ys
  heq : ∀ a b,PyData.eqv (py a) (py b) = decide (a = b)
def PC.rse {Z : SX} {Sl S' : Sta} {ρ : Type} {R : Rp ρ} : PC X Z fr Sl S S' R := ⟨.rse,0,fun _ _ => False,fun _ _ _ _ _ _ _ _ _ w _ => w.elim⟩
def Op1.repr [DecidableEq α] (A : Rp α) [h : EqR A] (hd : decide (h.dep <= 60) = true) : Op1 A Rp.str := .bi .repr (fun a => (A.enc a).rm <= 16777216) (fun a => (h.py a).shown) fun a ha => by
  refine ⟨(A.enc a).rm <= 16777216 /\ (A.enc a).dep <= 60,⟨ha,Nat.le_trans (h.hdep a) (of_decide_eq_true hd)⟩,?_⟩
  show (match (A.enc a).py with
    | some p => some ((A.enc a).rm <= 16777216 /\ (A.enc a).dep <= 60,D.str p.shown)
    | none => none) = _
  rw [h.hpy]
  rfl
theorem hV {f : α -> D} {b : Nat} : ∀ {xs : List α},(∀ x ∈ xs,(f x).rm <= b) -> D.rms (xs.map f) <= xs.length * (b + 2)
  | [],_ => Nat.zero_le _
  | x :: r,h => by
    have h1 := h x (List.mem_cons_self ..)
    have h2 := hV (xs := r) fun y hy => h y (List.mem_cons_of_mem _ hy)
    rw [List.map_cons,D.rms,List.length_cons,Nat.succ_mul]
    omega
end
mutual
def D.pl : D -> Bool
  | .ref _ => false
  | .dctT _ => false
  | .ptup _ => false
  | .vtup _ => false
  | .tup xs => D.pls xs
  | .lst xs => D.pls xs
  | _ => true
def D.pls : List D -> Bool
  | [] => true
  | x :: r => D.pl x && D.pls r
end
structure Any where
  d : D
  pl : d.pl = true
instance : Inhabited Any := ⟨⟨.non,rfl⟩⟩
def Rp.any : Rp Any := ⟨Any.d⟩
theorem D.pls_map {α : Type} {f : α -> D} (h : ∀ a,(f a).pl = true) : ∀ xs : List α,D.pls (xs.map f) = true
  | [] => rfl
  | x :: r => by
    rw [List.map_cons]
    unfold D.pls
    rw [h x,D.pls_map h r]
    rfl
class OkR {α : Type} (R : Rp α) : Prop where
  ok : ∀ a,(R.enc a).pl = true
instance : OkR Rp.nat := ⟨fun _ => rfl⟩
instance : OkR Rp.int := ⟨fun _ => rfl⟩
instance : OkR Rp.bool := ⟨fun _ => rfl⟩
instance : OkR Rp.str := ⟨fun _ => rfl⟩
instance : OkR Rp.non := ⟨fun _ => rfl⟩
instance : OkR Rp.any := ⟨fun a => a.pl⟩
instance {α : Type} {R : Rp α} [h : OkR R] : OkR (Rp.opt R) := ⟨fun a => by cases a; exact rfl; exact h.ok _⟩
instance {α : Type} {R : Rp α} [h : OkR R] : OkR (Rp.tup R) := ⟨fun a => D.pls_map h.ok a⟩
instance {α : Type} {R : Rp α} [h : OkR R] : OkR (Rp.lst R) := ⟨fun a => D.pls_map h.ok a⟩
instance {α β : Type} {A : Rp α} [h : OkR A] {B : Rp β} [g : OkR B] : OkR (Rp.pr A B) := ⟨fun p => by
  show D.pls [A.enc p.1,B.enc p.2] = true
  unfold D.pls D.pls D.pls
  rw [h.ok,g.ok]
  rfl⟩
instance {α β γ : Type} {A : Rp α} {B : Rp β} {C : Rp γ} [h : OkR A] [g : OkR B] [k : OkR C] : OkR (Rp.pr3 A B C) := ⟨fun p => by
  show D.pls [A.enc p.1,B.enc p.2.1,C.enc p.2.2] = true
  simp only [D.pls,h.ok,g.ok,k.ok,Bool.and_self]⟩
instance {α β : Type} {A : Rp α} [KeyK A] {B : Rp β} : OkR (Rp.dct A B) := ⟨fun _ => rfl⟩
def toAny {α : Type} (R : Rp α) [h : OkR R] (a : α) : Any := ⟨R.enc a,h.ok a⟩
instance : NoRef Rp.any := ⟨fun a n e => by
  have := a.pl
  rw [show a.d = .ref n from e] at this
  cases this⟩
section
variable {Γ α β γ δ ρ τ κ : Type}
variable {X : TX} {Z : SX} {fr : Fr Γ} {frs : Nat -> Fr Γ} {Sl S S' S1 S2 : Sta} {A : Rp α} {B : Rp β} {C : Rp γ} {R : Rp ρ}
def PE.any [h : OkR A] (e : PE X fr S A) : PE X fr S Rp.any := ⟨e.code,e.okay,fun γ => toAny A (e.val γ),e.np,fun γ L cs Q F w q => e.sound γ L cs Q F w q⟩
def IE.any [h : OkR A] (e : IE X Z fr S A) : IE X Z fr S Rp.any := e.conv (toAny A) fun _ => rfl
end
section
variable {Γ α β γ δ ρ τ κ : Type}
variable {X : TX} {Z : SX} {fr : Fr Γ} {S : Sta} {A : Rp α} {B : Rp β} {C : Rp γ} {R : Rp ρ}
def Rp.pr4 (A : Rp α) (B : Rp β) (C : Rp γ) (R : Rp ρ) : Rp (α × β × γ × ρ) := ⟨fun p => .tup [A.enc p.1,B.enc p.2.1,C.enc p.2.2.1,R.enc p.2.2.2]⟩
instance : NoRef (Rp.pr4 A B C R) := ⟨fun _ _ h => nomatch h⟩
instance : NN (Rp.pr4 A B C R) := ⟨fun _ => rfl⟩
instance [h : OkR A] [g : OkR B] [k : OkR C] [l : OkR R] : OkR (Rp.pr4 A B C R) := ⟨fun p => by
  show D.pls [_,_,_,_] = true
  simp only [D.pls,h.ok,g.ok,k.ok,l.ok,Bool.and_true]⟩
def TG.pr4 {S1 S2 S3 S4 : Sta} (a : TG fr S S1 A) (b : TG fr S1 S2 B) (c : TG fr S2 S3 C) (d : TG fr S3 S4 R) : TG fr S S4 (Rp.pr4 A B C R) := ⟨.tp (.cons a.code (.cons b.code (.cons c.code (.cons d.code .nil)))),fun p γ => d.put p.2.2.2 (c.put p.2.2.1 (b.put p.2.1 (a.put p.1 γ))),fun γ L p Q F q => by
  show asgs _ [_,_,_,_] _ _
  rw [asgs]
  refine a.sound γ L p.1 _ F fun L1 F1 => ?_
  rw [asgs]
  refine b.sound _ L1 p.2.1 _ F1 fun L2 F2 => ?_
  rw [asgs]
  refine c.sound _ L2 p.2.2.1 _ F2 fun L3 F3 => ?_
  rw [asgs]
  refine d.sound _ L3 p.2.2.2 _ F3 fun L4 F4 => ?_
  rw [asgs]
  exact q _ F4⟩
end
section
variable {Γ α : Type} {X : TX} {fr : Fr Γ} {S : Sta} {A : Rp α}
end
end Sp
set_option autoImplicit true
set_option autoImplicit false
namespace Sp
open PySem PySem.Spec PyProof.Rows L2
section
variable {Γ α β γ δ ρ τ : Type} {X : TX} {Z : SX} {fr : Fr Γ} {frs : Nat -> Fr Γ} {Sl S S' S1 S2 : Sta} {A : Rp α} {B : Rp β} {C : Rp γ} {R : Rp ρ}
theorem xE [NoRef R] (e : PE X fr S R) : Eq ((PE.o e) : OE X fr S R).code (e.code) := rfl
theorem xF [NoRef R] (e : PE X fr S R) : Eq ((PE.o e) : OE X fr S R).okay (e.okay) := rfl
theorem xG [NoRef R] (e : PE X fr S R) : Eq ((PE.o e) : OE X fr S R).val (e.val) := rfl
theorem vB (e : PE X fr S A) (ok : α -> Prop) (v : α -> ρ) (h : ∀ a,ok a -> A.enc a = R.enc (v a)) : Eq ((PE.as e ok v h) : PE X fr S R).code (e.code) := rfl
theorem vC (e : PE X fr S A) (ok : α -> Prop) (v : α -> ρ) (h : ∀ a,ok a -> A.enc a = R.enc (v a)) : Eq ((PE.as e ok v h) : PE X fr S R).okay (fun γ => e.okay γ /\ ok (e.val γ)) := rfl
theorem vD (e : PE X fr S A) (ok : α -> Prop) (v : α -> ρ) (h : ∀ a,ok a -> A.enc a = R.enc (v a)) : Eq ((PE.as e ok v h) : PE X fr S R).val (fun γ => v (e.val γ)) := rfl
theorem rD (e : OE X fr S A) (ok : α -> Prop) (v : α -> ρ) (h : ∀ a,ok a -> A.enc a = R.enc (v a)) : Eq ((OE.as e ok v h) : OE X fr S R).code (e.code) := rfl
theorem rE (e : OE X fr S A) (ok : α -> Prop) (v : α -> ρ) (h : ∀ a,ok a -> A.enc a = R.enc (v a)) : Eq ((OE.as e ok v h) : OE X fr S R).okay (fun γ => e.okay γ /\ ok (e.val γ)) := rfl
theorem rF (e : OE X fr S A) (ok : α -> Prop) (v : α -> ρ) (h : ∀ a,ok a -> A.enc a = R.enc (v a)) : Eq ((OE.as e ok v h) : OE X fr S R).val (fun γ => v (e.val γ)) := rfl
theorem wQ (c : CE) (a : α) (np : c.peeks = none) (h : ∀ L cs (Q : D -> Cells -> Prop),Q (A.enc a) cs -> wpE X.G X.con c L cs Q) : Eq ((PE.lit c a np h) : PE X fr S A).code (c) := rfl
theorem wR (c : CE) (a : α) (np : c.peeks = none) (h : ∀ L cs (Q : D -> Cells -> Prop),Q (A.enc a) cs -> wpE X.G X.con c L cs Q) : Eq ((PE.lit c a np h) : PE X fr S A).okay (fun _ => True) := rfl
theorem wU (c : CE) (a : α) (np : c.peeks = none) (h : ∀ L cs (Q : D -> Cells -> Prop),Q (A.enc a) cs -> wpE X.G X.con c L cs Q) : Eq ((PE.lit c a np h) : PE X fr S A).val (fun _ => a) := rfl
theorem wC (i : Int) : Eq ((PE.int i) : PE X fr S Rp.int).code ((.int i)) := rfl
theorem wD (i : Int) : Eq ((PE.int i) : PE X fr S Rp.int).okay (fun _ => True) := rfl
theorem wF (i : Int) : Eq ((PE.int i) : PE X fr S Rp.int).val (fun _ => i) := rfl
theorem wY (i : Nat) : Eq ((PE.nat i) : PE X fr S Rp.nat).code ((.int (i : Nat))) := rfl
theorem wZ (i : Nat) : Eq ((PE.nat i) : PE X fr S Rp.nat).okay (fun _ => True) := rfl
theorem w4 (i : Nat) : Eq ((PE.nat i) : PE X fr S Rp.nat).val (fun _ => i) := rfl
theorem vE (b : Bool) : Eq ((PE.bl b) : PE X fr S Rp.bool).code ((.bl b)) := rfl
theorem vF (b : Bool) : Eq ((PE.bl b) : PE X fr S Rp.bool).okay (fun _ => True) := rfl
theorem vG (b : Bool) : Eq ((PE.bl b) : PE X fr S Rp.bool).val (fun _ => b) := rfl
theorem xZ (x : Str) : Eq ((PE.str x) : PE X fr S Rp.str).code ((.str x)) := rfl
theorem x6 (x : Str) : Eq ((PE.str x) : PE X fr S Rp.str).okay (fun _ => True) := rfl
theorem x7 (x : Str) : Eq ((PE.str x) : PE X fr S Rp.str).val (fun _ => x) := rfl
theorem w8  : Eq (PE.non : PE X fr S Rp.non).code (.non) := rfl
theorem w9  : Eq (PE.non : PE X fr S Rp.non).okay (fun _ => True) := rfl
theorem xA  : Eq (PE.non : PE X fr S Rp.non).val (fun _ => ()) := rfl
theorem yE {i : Nat} (l : Ln fr i R) (h : (S.lookup i).isSome = true) : Eq ((PE.var l h) : PE X fr S R).code (.var i) := rfl
theorem yF {i : Nat} (l : Ln fr i R) (h : (S.lookup i).isSome = true) : Eq ((PE.var l h) : PE X fr S R).okay (fun _ => True) := rfl
theorem yG {i : Nat} (l : Ln fr i R) (h : (S.lookup i).isSome = true) : Eq ((PE.var l h) : PE X fr S R).val (l.get) := rfl
theorem rP {i : Nat} (l : OLn fr i R) (h : (S.lookup i).isSome = true) : Eq ((OE.own l h) : OE X fr S (Rp.lst R)).code (.peek i) := rfl
theorem rQ {i : Nat} (l : OLn fr i R) (h : (S.lookup i).isSome = true) : Eq ((OE.own l h) : OE X fr S (Rp.lst R)).okay (fun _ => True) := rfl
theorem rR {i : Nat} (l : OLn fr i R) (h : (S.lookup i).isSome = true) : Eq ((OE.own l h) : OE X fr S (Rp.lst R)).val (l.get) := rfl
theorem vT {i : Nat} (l : OLn fr i R) (h : S.lookup i = some true) : Eq ((PE.frz l h) : PE X fr S (Rp.lst R)).code (.var i) := rfl
theorem vU {i : Nat} (l : OLn fr i R) (h : S.lookup i = some true) : Eq ((PE.frz l h) : PE X fr S (Rp.lst R)).okay (fun _ => True) := rfl
theorem vV {i : Nat} (l : OLn fr i R) (h : S.lookup i = some true) : Eq ((PE.frz l h) : PE X fr S (Rp.lst R)).val (l.get) := rfl
theorem v7 (x : Str) (a : α) (h : X.con x = some (A.enc a)) : Eq ((PE.glob x a h) : PE X fr S A).code ((.glob x)) := rfl
theorem v8 (x : Str) (a : α) (h : X.con x = some (A.enc a)) : Eq ((PE.glob x a h) : PE X fr S A).okay (fun _ => True) := rfl
theorem v9 (x : Str) (a : α) (h : X.con x = some (A.enc a)) : Eq ((PE.glob x a h) : PE X fr S A).val (fun _ => a) := rfl
theorem u4 (f : Op1 A R) (a : OE X fr S A) : Eq ((PE.ap1 f a) : PE X fr S R).code (f.cd a.code) := rfl
theorem u5 (f : Op1 A R) (a : OE X fr S A) : Eq ((PE.ap1 f a) : PE X fr S R).okay (fun γ => a.okay γ /\ f.okay (a.val γ)) := rfl
theorem u6 (f : Op1 A R) (a : OE X fr S A) : Eq ((PE.ap1 f a) : PE X fr S R).val (fun γ => f.val (a.val γ)) := rfl
theorem u7 [NoRef B] (f : Op2 A B R) (a : OE X fr S A) (b : PE X fr S B) : Eq ((PE.ap2 f a b) : PE X fr S R).code (f.cd a.code b.code) := rfl
theorem u9 [NoRef B] (f : Op2 A B R) (a : OE X fr S A) (b : PE X fr S B) : Eq ((PE.ap2 f a b) : PE X fr S R).okay (fun γ => a.okay γ /\ b.okay γ /\ f.okay (a.val γ) (b.val γ)) := rfl
theorem vA [NoRef B] (f : Op2 A B R) (a : OE X fr S A) (b : PE X fr S B) : Eq ((PE.ap2 f a b) : PE X fr S R).val (fun γ => f.val (a.val γ) (b.val γ)) := rfl
theorem sF (f : Bi) (oy : α -> Prop) (v : α -> ρ) (h : ∀ x,oy x -> ∃ c,c /\ biV f [A.enc x] = some (c,R.enc (v x))) : Eq ((Op1.bi f oy v h) : Op1 A R).cd (fun c => .bi f (.cons c .nil)) := rfl
theorem sG (f : Bi) (oy : α -> Prop) (v : α -> ρ) (h : ∀ x,oy x -> ∃ c,c /\ biV f [A.enc x] = some (c,R.enc (v x))) : Eq ((Op1.bi f oy v h) : Op1 A R).okay (oy) := rfl
theorem sH (f : Bi) (oy : α -> Prop) (v : α -> ρ) (h : ∀ x,oy x -> ∃ c,c /\ biV f [A.enc x] = some (c,R.enc (v x))) : Eq ((Op1.bi f oy v h) : Op1 A R).val (v) := rfl
theorem tH (f : Bi) (oy : α -> β -> Prop) (v : α -> β -> ρ) (h : ∀ x y,oy x y -> ∃ c,c /\ biV f [A.enc x,B.enc y] = some (c,R.enc (v x y))) : Eq ((Op2.bi f oy v h) : Op2 A B R).cd (fun c d => .bi f (.cons c (.cons d .nil))) := rfl
theorem tI (f : Bi) (oy : α -> β -> Prop) (v : α -> β -> ρ) (h : ∀ x y,oy x y -> ∃ c,c /\ biV f [A.enc x,B.enc y] = some (c,R.enc (v x y))) : Eq ((Op2.bi f oy v h) : Op2 A B R).okay (oy) := rfl
theorem tJ (f : Bi) (oy : α -> β -> Prop) (v : α -> β -> ρ) (h : ∀ x y,oy x y -> ∃ c,c /\ biV f [A.enc x,B.enc y] = some (c,R.enc (v x y))) : Eq ((Op2.bi f oy v h) : Op2 A B R).val (v) := rfl
theorem tK (o : BOp) (oy : α -> β -> Prop) (v : α -> β -> ρ) (h : ∀ x y,oy x y -> ∃ c,c /\ binV o (A.enc x) (B.enc y) = some (c,R.enc (v x y))) : Eq ((Op2.bin o oy v h) : Op2 A B R).cd (fun c d => .bin o c d) := rfl
theorem tL (o : BOp) (oy : α -> β -> Prop) (v : α -> β -> ρ) (h : ∀ x y,oy x y -> ∃ c,c /\ binV o (A.enc x) (B.enc y) = some (c,R.enc (v x y))) : Eq ((Op2.bin o oy v h) : Op2 A B R).okay (oy) := rfl
theorem tM (o : BOp) (oy : α -> β -> Prop) (v : α -> β -> ρ) (h : ∀ x y,oy x y -> ∃ c,c /\ binV o (A.enc x) (B.enc y) = some (c,R.enc (v x y))) : Eq ((Op2.bin o oy v h) : Op2 A B R).val (v) := rfl
theorem tN (o : COp) (oy : α -> β -> Prop) (v : α -> β -> Bool) (h : ∀ x y,oy x y -> ∃ c,c /\ cmpV o (A.enc x) (B.enc y) = some (c,v x y)) : Eq ((Op2.cmp o oy v h) : Op2 A B Rp.bool).cd (fun c d => .cmp o c d) := rfl
theorem tO (o : COp) (oy : α -> β -> Prop) (v : α -> β -> Bool) (h : ∀ x y,oy x y -> ∃ c,c /\ cmpV o (A.enc x) (B.enc y) = some (c,v x y)) : Eq ((Op2.cmp o oy v h) : Op2 A B Rp.bool).okay (oy) := rfl
theorem tP (o : COp) (oy : α -> β -> Prop) (v : α -> β -> Bool) (h : ∀ x y,oy x y -> ∃ c,c /\ cmpV o (A.enc x) (B.enc y) = some (c,v x y)) : Eq ((Op2.cmp o oy v h) : Op2 A B Rp.bool).val (v) := rfl
theorem tW (oy : α -> β -> Prop) (v : α -> β -> ρ) (h : ∀ x y,oy x y -> ixV (A.enc x) (B.enc y) = yes (R.enc (v x y))) [NoRef B] : Eq ((Op2.ix oy v h) : Op2 A B R).cd (fun c d => .ix c d) := rfl
theorem tX (oy : α -> β -> Prop) (v : α -> β -> ρ) (h : ∀ x y,oy x y -> ixV (A.enc x) (B.enc y) = yes (R.enc (v x y))) [NoRef B] : Eq ((Op2.ix oy v h) : Op2 A B R).okay (oy) := rfl
theorem tY (oy : α -> β -> Prop) (v : α -> β -> ρ) (h : ∀ x y,oy x y -> ixV (A.enc x) (B.enc y) = yes (R.enc (v x y))) [NoRef B] : Eq ((Op2.ix oy v h) : Op2 A B R).val (v) := rfl
theorem sU  : Eq (Op1.not : Op1 Rp.bool Rp.bool).cd (fun c => .not c) := rfl
theorem sV  : Eq (Op1.not : Op1 Rp.bool Rp.bool).okay (fun _ => True) := rfl
theorem sW  : Eq (Op1.not : Op1 Rp.bool Rp.bool).val (fun b => !b) := rfl
theorem uU (a b : PE X fr S Rp.bool) : Eq ((PE.and a b) : PE X fr S Rp.bool).code (.and a.code b.code) := rfl
theorem uV (a b : PE X fr S Rp.bool) : Eq ((PE.and a b) : PE X fr S Rp.bool).okay (fun γ => a.okay γ /\ (a.val γ = true -> b.okay γ)) := rfl
theorem uW (a b : PE X fr S Rp.bool) : Eq ((PE.and a b) : PE X fr S Rp.bool).val (fun γ => a.val γ && b.val γ) := rfl
theorem xH (a b : PE X fr S Rp.bool) : Eq ((PE.or a b) : PE X fr S Rp.bool).code (.or a.code b.code) := rfl
theorem xI (a b : PE X fr S Rp.bool) : Eq ((PE.or a b) : PE X fr S Rp.bool).okay (fun γ => a.okay γ /\ (a.val γ = false -> b.okay γ)) := rfl
theorem xJ (a b : PE X fr S Rp.bool) : Eq ((PE.or a b) : PE X fr S Rp.bool).val (fun γ => a.val γ || b.val γ) := rfl
theorem wJ (t : OE X fr S Rp.bool) (a b : PE X fr S R) : Eq ((PE.ite t a b) : PE X fr S R).code (.ife t.code a.code b.code) := rfl
theorem wK (t : OE X fr S Rp.bool) (a b : PE X fr S R) : Eq ((PE.ite t a b) : PE X fr S R).okay (fun γ => t.okay γ /\ (t.val γ = true -> a.okay γ) /\ (t.val γ = false -> b.okay γ)) := rfl
theorem wL (t : OE X fr S Rp.bool) (a b : PE X fr S R) : Eq ((PE.ite t a b) : PE X fr S R).val (fun γ => cond (t.val γ) (a.val γ) (b.val γ)) := rfl
theorem w5 (a : PE X fr S Rp.int) : Eq ((PE.neg a) : PE X fr S Rp.int).code (.neg a.code) := rfl
theorem w6 (a : PE X fr S Rp.int) : Eq ((PE.neg a) : PE X fr S Rp.int).okay (a.okay) := rfl
theorem w7 (a : PE X fr S Rp.int) : Eq ((PE.neg a) : PE X fr S Rp.int).val (fun γ => -a.val γ) := rfl
theorem vK {E : Rp δ} (h : Chn A B E) (a : PE X fr S A) (b : PE X fr S B) (c : PE X fr S E) : Eq ((PE.chain h a b c) : PE X fr S Rp.bool).code (.chain h.o h.p a.code b.code c.code) := rfl
theorem vL {E : Rp δ} (h : Chn A B E) (a : PE X fr S A) (b : PE X fr S B) (c : PE X fr S E) : Eq ((PE.chain h a b c) : PE X fr S Rp.bool).okay (fun γ => a.okay γ /\ b.okay γ /\ (h.f (a.val γ) (b.val γ) = true -> c.okay γ)) := rfl
theorem vM {E : Rp δ} (h : Chn A B E) (a : PE X fr S A) (b : PE X fr S B) (c : PE X fr S E) : Eq ((PE.chain h a b c) : PE X fr S Rp.bool).val (fun γ => h.f (a.val γ) (b.val γ) && h.g (b.val γ) (c.val γ)) := rfl
theorem yS  : Eq (PEs.nil : PEs X fr S encN).code (.nil) := rfl
theorem yT  : Eq (PEs.nil : PEs X fr S encN).okay (fun _ => True) := rfl
theorem yU  : Eq (PEs.nil : PEs X fr S encN).val (fun _ => ()) := rfl
theorem yN {E : τ -> List D} (a : PE X fr S A) (r : PEs X fr S E) : Eq ((PEs.cons a r) : PEs X fr S (encC A E)).code (.cons a.code r.code) := rfl
theorem yO {E : τ -> List D} (a : PE X fr S A) (r : PEs X fr S E) : Eq ((PEs.cons a r) : PEs X fr S (encC A E)).okay (fun γ => a.okay γ /\ r.okay γ) := rfl
theorem yP {E : τ -> List D} (a : PE X fr S A) (r : PEs X fr S E) : Eq ((PEs.cons a r) : PEs X fr S (encC A E)).val (fun γ => (a.val γ,r.val γ)) := rfl
theorem yK  : Eq (PEl.nil : PEl X fr S R).code (.nil) := rfl
theorem yL  : Eq (PEl.nil : PEl X fr S R).okay (fun _ => True) := rfl
theorem yM  : Eq (PEl.nil : PEl X fr S R).val (fun _ => []) := rfl
theorem yH (a : PE X fr S R) (r : PEl X fr S R) : Eq ((PEl.cons a r) : PEl X fr S R).code (.cons a.code r.code) := rfl
theorem yI (a : PE X fr S R) (r : PEl X fr S R) : Eq ((PEl.cons a r) : PEl X fr S R).okay (fun γ => a.okay γ /\ r.okay γ) := rfl
theorem yJ (a : PE X fr S R) (r : PEl X fr S R) : Eq ((PEl.cons a r) : PEl X fr S R).val (fun γ => a.val γ :: r.val γ) := rfl
theorem wV (es : PEl X fr S R) (h : decide (es.n <= 4096) = true) : Eq ((PE.lst es h) : PE X fr S (Rp.lst R)).code (.lst es.code) := rfl
theorem wW (es : PEl X fr S R) (h : decide (es.n <= 4096) = true) : Eq ((PE.lst es h) : PE X fr S (Rp.lst R)).okay (es.okay) := rfl
theorem wX (es : PEl X fr S R) (h : decide (es.n <= 4096) = true) : Eq ((PE.lst es h) : PE X fr S (Rp.lst R)).val (es.val) := rfl
theorem x8 (es : PEl X fr S R) (h : decide (es.n <= 4096) = true) : Eq ((PE.tup es h) : PE X fr S (Rp.tup R)).code (.tup es.code) := rfl
theorem x9 (es : PEl X fr S R) (h : decide (es.n <= 4096) = true) : Eq ((PE.tup es h) : PE X fr S (Rp.tup R)).okay (es.okay) := rfl
theorem yA (es : PEl X fr S R) (h : decide (es.n <= 4096) = true) : Eq ((PE.tup es h) : PE X fr S (Rp.tup R)).val (es.val) := rfl
theorem xQ (es : PEl X fr S R) (h : decide (es.n <= 4096) = true) : Eq ((PE.ptup es h) : PE X fr S (Rp.ptup R)).code (.pdis es.code) := rfl
theorem xR (es : PEl X fr S R) (h : decide (es.n <= 4096) = true) : Eq ((PE.ptup es h) : PE X fr S (Rp.ptup R)).okay (es.okay) := rfl
theorem xS (es : PEl X fr S R) (h : decide (es.n <= 4096) = true) : Eq ((PE.ptup es h) : PE X fr S (Rp.ptup R)).val (es.val) := rfl
theorem xN (a : PE X fr S A) (b : PE X fr S B) : Eq ((PE.pr a b) : PE X fr S (Rp.pr A B)).code (.tup (.cons a.code (.cons b.code .nil))) := rfl
theorem xO (a : PE X fr S A) (b : PE X fr S B) : Eq ((PE.pr a b) : PE X fr S (Rp.pr A B)).okay (fun γ => a.okay γ /\ b.okay γ) := rfl
theorem xP (a : PE X fr S A) (b : PE X fr S B) : Eq ((PE.pr a b) : PE X fr S (Rp.pr A B)).val (fun γ => (a.val γ,b.val γ)) := rfl
theorem xK (a : PE X fr S A) (b : PE X fr S B) (c : PE X fr S C) : Eq ((PE.pr3 a b c) : PE X fr S (Rp.pr3 A B C)).code (.tup (.cons a.code (.cons b.code (.cons c.code .nil)))) := rfl
theorem xL (a : PE X fr S A) (b : PE X fr S B) (c : PE X fr S C) : Eq ((PE.pr3 a b c) : PE X fr S (Rp.pr3 A B C)).okay (fun γ => a.okay γ /\ b.okay γ /\ c.okay γ) := rfl
theorem xM (a : PE X fr S A) (b : PE X fr S B) (c : PE X fr S C) : Eq ((PE.pr3 a b c) : PE X fr S (Rp.pr3 A B C)).val (fun γ => (a.val γ,b.val γ,c.val γ)) := rfl
theorem vH {E : τ -> List D} (f : PF X.G E R) (as : PEs X fr S E) : Eq ((PE.call f as) : PE X fr S R).code (.call f.name as.code) := rfl
theorem vI {E : τ -> List D} (f : PF X.G E R) (as : PEs X fr S E) : Eq ((PE.call f as) : PE X fr S R).okay (fun γ => as.okay γ /\ f.pre (as.val γ)) := rfl
theorem vJ {E : τ -> List D} (f : PF X.G E R) (as : PEs X fr S E) : Eq ((PE.call f as) : PE X fr S R).val (fun γ => f.val (as.val γ)) := rfl
theorem t5  : Eq (Op2.nadd : Op2 Rp.nat Rp.nat Rp.nat).cd (fun c d => CE.bin .add c d) := rfl
theorem t6  : Eq (Op2.nadd : Op2 Rp.nat Rp.nat Rp.nat).okay T2 := rfl
theorem t7  : Eq (Op2.nadd : Op2 Rp.nat Rp.nat Rp.nat).val (· + ·) := rfl
theorem uB  : Eq (Op2.nshl : Op2 Rp.nat Rp.nat Rp.nat).cd (fun c d => CE.bin .shl c d) := rfl
theorem uC  : Eq (Op2.nshl : Op2 Rp.nat Rp.nat Rp.nat).okay (fun i j => j <= 1000000 /\ i < 2 ^ 64) := rfl
theorem uD  : Eq (Op2.nshl : Op2 Rp.nat Rp.nat Rp.nat).val (fun i j => i * 2 ^ j) := rfl
theorem t8  : Eq (Op2.nmin : Op2 Rp.nat Rp.nat Rp.nat).cd (fun c d => CE.bi .min2 (.cons c (.cons d .nil))) := rfl
theorem t9  : Eq (Op2.nmin : Op2 Rp.nat Rp.nat Rp.nat).okay T2 := rfl
theorem uA  : Eq (Op2.nmin : Op2 Rp.nat Rp.nat Rp.nat).val min := rfl
theorem tQ [DecidableEq α] (A : Rp α) [h : EqR A] (hd : decide (h.dep <= 60) = true) : Eq ((Op2.eq A hd) : Op2 A A Rp.bool).cd (fun c d => CE.cmp .eq c d) := rfl
theorem tR [DecidableEq α] (A : Rp α) [h : EqR A] (hd : decide (h.dep <= 60) = true) : Eq ((Op2.eq A hd) : Op2 A A Rp.bool).okay T2 := rfl
theorem tS [DecidableEq α] (A : Rp α) [h : EqR A] (hd : decide (h.dep <= 60) = true) : Eq ((Op2.eq A hd) : Op2 A A Rp.bool).val (fun a b => a == b) := rfl
theorem sI (A : Rp α) [n : NN A] : Eq ((Op1.isN A) : Op1 (Rp.opt A) Rp.bool).cd (fun c => .cmp .isn c .non) := rfl
theorem sJ (A : Rp α) [n : NN A] : Eq ((Op1.isN A) : Op1 (Rp.opt A) Rp.bool).okay (T1) := rfl
theorem sK (A : Rp α) [n : NN A] : Eq ((Op1.isN A) : Op1 (Rp.opt A) Rp.bool).val (Option.isNone) := rfl
theorem vQ (e : PE X fr S A) (v : α -> ρ) (h : ∀ a,A.enc a = R.enc (v a)) : Eq ((PE.conv e v h) : PE X fr S R).code (e.code) := rfl
theorem vR (e : PE X fr S A) (v : α -> ρ) (h : ∀ a,A.enc a = R.enc (v a)) : Eq ((PE.conv e v h) : PE X fr S R).okay (e.okay) := rfl
theorem vS (e : PE X fr S A) (v : α -> ρ) (h : ∀ a,A.enc a = R.enc (v a)) : Eq ((PE.conv e v h) : PE X fr S R).val (fun γ => v (e.val γ)) := rfl
theorem rG (e : OE X fr S A) (v : α -> ρ) (h : ∀ a,A.enc a = R.enc (v a)) : Eq ((OE.conv e v h) : OE X fr S R).code (e.code) := rfl
theorem rH (e : OE X fr S A) (v : α -> ρ) (h : ∀ a,A.enc a = R.enc (v a)) : Eq ((OE.conv e v h) : OE X fr S R).okay (e.okay) := rfl
theorem rJ (e : OE X fr S A) (v : α -> ρ) (h : ∀ a,A.enc a = R.enc (v a)) : Eq ((OE.conv e v h) : OE X fr S R).val (fun γ => v (e.val γ)) := rfl
theorem vW [Inhabited α] (e : PE X fr S (Rp.opt A)) : Eq ((PE.get e) : PE X fr S A).code e.code := rfl
theorem vX [Inhabited α] (e : PE X fr S (Rp.opt A)) : Eq ((PE.get e) : PE X fr S A).okay (fun γ => e.okay γ /\ (fun o => o.isSome = true) (e.val γ)) := rfl
theorem vY [Inhabited α] (e : PE X fr S (Rp.opt A)) : Eq ((PE.get e) : PE X fr S A).val (fun γ => (fun o => o.getD default) (e.val γ)) := rfl
theorem rK [Inhabited α] (e : OE X fr S (Rp.opt A)) : Eq ((OE.get e) : OE X fr S A).code e.code := rfl
theorem rL [Inhabited α] (e : OE X fr S (Rp.opt A)) : Eq ((OE.get e) : OE X fr S A).okay (fun γ => e.okay γ /\ (fun o => o.isSome = true) (e.val γ)) := rfl
theorem rM [Inhabited α] (e : OE X fr S (Rp.opt A)) : Eq ((OE.get e) : OE X fr S A).val (fun γ => (fun o => o.getD default) (e.val γ)) := rfl
theorem xT (e : PE X fr S A) : Eq ((PE.someO e) : PE X fr S (Rp.opt A)).code e.code := rfl
theorem xU (e : PE X fr S A) : Eq ((PE.someO e) : PE X fr S (Rp.opt A)).okay (e.okay) := rfl
theorem xV (e : PE X fr S A) : Eq ((PE.someO e) : PE X fr S (Rp.opt A)).val (fun γ => Option.some (e.val γ)) := rfl
theorem xB (A : Rp α) : Eq ((PE.noneO A) : PE X fr S (Rp.opt A)).code (.non) := rfl
theorem xC (A : Rp α) : Eq ((PE.noneO A) : PE X fr S (Rp.opt A)).okay (fun _ => True) := rfl
theorem xD (A : Rp α) : Eq ((PE.noneO A) : PE X fr S (Rp.opt A)).val (fun _ => Option.none) := rfl
theorem yB (e : PE X fr S Rp.nat) : Eq ((PE.up e) : PE X fr S Rp.int).code e.code := rfl
theorem yC (e : PE X fr S Rp.nat) : Eq ((PE.up e) : PE X fr S Rp.int).okay (e.okay) := rfl
theorem yD (e : PE X fr S Rp.nat) : Eq ((PE.up e) : PE X fr S Rp.int).val (fun γ => (fun n => (n : Int)) (e.val γ)) := rfl
theorem rS (e : OE X fr S Rp.nat) : Eq ((OE.up e) : OE X fr S Rp.int).code e.code := rfl
theorem rT (e : OE X fr S Rp.nat) : Eq ((OE.up e) : OE X fr S Rp.int).okay (e.okay) := rfl
theorem rV (e : OE X fr S Rp.nat) : Eq ((OE.up e) : OE X fr S Rp.int).val (fun γ => (fun n => (n : Int)) (e.val γ)) := rfl
theorem sO (A : Rp α) : Eq ((Op1.lenL A) : Op1 (Rp.lst A) Rp.nat).cd (fun c => CE.bi .len (.cons c .nil)) := rfl
theorem sP (A : Rp α) : Eq ((Op1.lenL A) : Op1 (Rp.lst A) Rp.nat).okay T1 := rfl
theorem sQ (A : Rp α) : Eq ((Op1.lenL A) : Op1 (Rp.lst A) Rp.nat).val List.length := rfl
theorem sR (A : Rp α) : Eq ((Op1.lenT A) : Op1 (Rp.tup A) Rp.nat).cd (fun c => CE.bi .len (.cons c .nil)) := rfl
theorem sS (A : Rp α) : Eq ((Op1.lenT A) : Op1 (Rp.tup A) Rp.nat).okay T1 := rfl
theorem sT (A : Rp α) : Eq ((Op1.lenT A) : Op1 (Rp.tup A) Rp.nat).val List.length := rfl
theorem rW  : Eq (Op1.abs : Op1 Rp.int Rp.int).cd (fun c => CE.bi .abs (.cons c .nil)) := rfl
theorem rX  : Eq (Op1.abs : Op1 Rp.int Rp.int).okay T1 := rfl
theorem rY  : Eq (Op1.abs : Op1 Rp.int Rp.int).val (fun i => (i.natAbs : Int)) := rfl
theorem rZ  : Eq (Op1.all : Op1 (Rp.lst Rp.bool) Rp.bool).cd (fun c => CE.bi .all (.cons c .nil)) := rfl
theorem sA  : Eq (Op1.all : Op1 (Rp.lst Rp.bool) Rp.bool).okay T1 := rfl
theorem sB  : Eq (Op1.all : Op1 (Rp.lst Rp.bool) Rp.bool).val (fun bs => bs.all id) := rfl
theorem sC  : Eq (Op1.any : Op1 (Rp.lst Rp.bool) Rp.bool).cd (fun c => CE.bi .any (.cons c .nil)) := rfl
theorem sD  : Eq (Op1.any : Op1 (Rp.lst Rp.bool) Rp.bool).okay T1 := rfl
theorem sE  : Eq (Op1.any : Op1 (Rp.lst Rp.bool) Rp.bool).val (fun bs => bs.any id) := rfl
theorem s9 (A : Rp α) : Eq ((Op1.tupL A) : Op1 (Rp.lst A) (Rp.tup A)).cd (fun c => CE.bi .tuple (.cons c .nil)) := rfl
theorem tA (A : Rp α) : Eq ((Op1.tupL A) : Op1 (Rp.lst A) (Rp.tup A)).okay T1 := rfl
theorem tD (A : Rp α) : Eq ((Op1.tupL A) : Op1 (Rp.lst A) (Rp.tup A)).val id := rfl
theorem tT (A : Rp α) [Inhabited α] : Eq ((Op2.ixL A) : Op2 (Rp.lst A) Rp.nat A).cd (fun c d => CE.ix c d) := rfl
theorem tU (A : Rp α) [Inhabited α] : Eq ((Op2.ixL A) : Op2 (Rp.lst A) Rp.nat A).okay (fun xs i => i < xs.length) := rfl
theorem tV (A : Rp α) [Inhabited α] : Eq ((Op2.ixL A) : Op2 (Rp.lst A) Rp.nat A).val (fun xs i => xs[i]?.getD default) := rfl
theorem tZ (A : Rp α) : Eq ((Op2.mulT A) : Op2 (Rp.tup A) Rp.nat (Rp.tup A)).cd (fun c d => CE.bin .mul c d) := rfl
theorem t3 (A : Rp α) : Eq ((Op2.mulT A) : Op2 (Rp.tup A) Rp.nat (Rp.tup A)).okay (fun xs n => n < 2 ^ 63 /\ xs.length * n <= sizeLine) := rfl
theorem t4 (A : Rp α) : Eq ((Op2.mulT A) : Op2 (Rp.tup A) Rp.nat (Rp.tup A)).val (fun xs n => (List.replicate n xs).flatten) := rfl
theorem wG (s : Isi A) (e : PE X fr S A) : Eq ((PE.isi s e) : PE X fr S Rp.bool).code (.isi s.t e.code) := rfl
theorem wH (s : Isi A) (e : PE X fr S A) : Eq ((PE.isi s e) : PE X fr S Rp.bool).okay (e.okay) := rfl
theorem wI (s : Isi A) (e : PE X fr S A) : Eq ((PE.isi s e) : PE X fr S Rp.bool).val (fun γ => s.b (e.val γ)) := rfl
theorem yV  : Eq (PO.no : PO X fr S).code (.no) := rfl
theorem yW  : Eq (PO.no : PO X fr S).okay (T1) := rfl
theorem yX  : Eq (PO.no : PO X fr S).val (fun _ => .none) := rfl
theorem yY (e : PE X fr S Rp.nat) : Eq ((PO.yes e) : PO X fr S).code (.yes e.code) := rfl
theorem yZ (e : PE X fr S Rp.nat) : Eq ((PO.yes e) : PO X fr S).okay (e.okay) := rfl
theorem y4 (e : PE X fr S Rp.nat) : Eq ((PO.yes e) : PO X fr S).val (fun γ => .some (e.val γ)) := rfl
theorem zN (o : OE X fr S (Rp.lst A)) : Eq ((SR.lst o) : SR X fr S A).code (.val o.code) := rfl
theorem zO (o : OE X fr S (Rp.lst A)) : Eq ((SR.lst o) : SR X fr S A).okay (o.okay) := rfl
theorem zP (o : OE X fr S (Rp.lst A)) : Eq ((SR.lst o) : SR X fr S A).val (o.val) := rfl
theorem zW (o : OE X fr S (Rp.tup A)) : Eq ((SR.tup o) : SR X fr S A).code (.val o.code) := rfl
theorem zX (o : OE X fr S (Rp.tup A)) : Eq ((SR.tup o) : SR X fr S A).okay (o.okay) := rfl
theorem zY (o : OE X fr S (Rp.tup A)) : Eq ((SR.tup o) : SR X fr S A).val (o.val) := rfl
theorem zQ (o : OE X fr S (Rp.ptup A)) : Eq ((SR.ptup o) : SR X fr S A).code (.val o.code) := rfl
theorem zR (o : OE X fr S (Rp.ptup A)) : Eq ((SR.ptup o) : SR X fr S A).okay (o.okay) := rfl
theorem zS (o : OE X fr S (Rp.ptup A)) : Eq ((SR.ptup o) : SR X fr S A).val (o.val) := rfl
theorem zZ (o : OE X fr S (Rp.vtup A)) : Eq ((SR.vtup o) : SR X fr S A).code (.val o.code) := rfl
theorem aAa (o : OE X fr S (Rp.vtup A)) : Eq ((SR.vtup o) : SR X fr S A).okay (o.okay) := rfl
theorem aBa (o : OE X fr S (Rp.vtup A)) : Eq ((SR.vtup o) : SR X fr S A).val (o.val) := rfl
theorem zT (e : PE X fr S Rp.nat) : Eq ((SR.rng e) : SR X fr S Rp.nat).code (.rng1 e.code) := rfl
theorem zU (e : PE X fr S Rp.nat) : Eq ((SR.rng e) : SR X fr S Rp.nat).okay (fun γ => e.okay γ /\ e.val γ < 2 ^ 62) := rfl
theorem zV (e : PE X fr S Rp.nat) : Eq ((SR.rng e) : SR X fr S Rp.nat).val (fun γ => List.range (e.val γ)) := rfl
theorem aCa (a : OI X fr S A) (b : OI X fr S B) : Eq ((SR.zip a b) : SR X fr S (Rp.pr A B)).code (.zip2 a.code b.code) := rfl
theorem aDa (a : OI X fr S A) (b : OI X fr S B) : Eq ((SR.zip a b) : SR X fr S (Rp.pr A B)).okay (fun γ => a.okay γ /\ b.okay γ) := rfl
theorem aEa (a : OI X fr S A) (b : OI X fr S B) : Eq ((SR.zip a b) : SR X fr S (Rp.pr A B)).val (fun γ => (a.val γ).zip (b.val γ)) := rfl
theorem aHa {i : Nat} (l : Ln fr i A) : Eq ((TG.nm l) : TG fr S ((i,false) :: S) A).code (.nm i) := rfl
theorem aIa {i : Nat} (l : Ln fr i A) : Eq ((TG.nm l) : TG fr S ((i,false) :: S) A).put (l.set) := rfl
theorem aNa {S1 S2 : Sta} (a : TG fr S S1 A) (b : TG fr S1 S2 B) : Eq ((TG.pr a b) : TG fr S S2 (Rp.pr A B)).code (.tp (.cons a.code (.cons b.code .nil))) := rfl
theorem aOa {S1 S2 : Sta} (a : TG fr S S1 A) (b : TG fr S1 S2 B) : Eq ((TG.pr a b) : TG fr S S2 (Rp.pr A B)).put (fun p γ => b.put p.2 (a.put p.1 γ)) := rfl
theorem aJa {S1 S2 S3 : Sta} (a : TG fr S S1 A) (b : TG fr S1 S2 B) (c : TG fr S2 S3 C) : Eq ((TG.pr3 a b c) : TG fr S S3 (Rp.pr3 A B C)).code (.tp (.cons a.code (.cons b.code (.cons c.code .nil)))) := rfl
theorem aKa {S1 S2 S3 : Sta} (a : TG fr S S1 A) (b : TG fr S1 S2 B) (c : TG fr S2 S3 C) : Eq ((TG.pr3 a b c) : TG fr S S3 (Rp.pr3 A B C)).put (fun p γ => c.put p.2.2 (b.put p.2.1 (a.put p.1 γ))) := rfl
theorem vN {S' : Sta} (own : List Nat) (ho : (own.all fun i => decide (i < fr.n) && !fr.own i) = true) (src : SR X fr S A) (g : TG fr (wipeS own S) S' A) (e : PE X fr S' R) : Eq ((PE.comp own ho src g e) : PE X fr S (Rp.lst R)).code (.comp own g.code src.code .no e.code) := rfl
theorem vO {S' : Sta} (own : List Nat) (ho : (own.all fun i => decide (i < fr.n) && !fr.own i) = true) (src : SR X fr S A) (g : TG fr (wipeS own S) S' A) (e : PE X fr S' R) : Eq ((PE.comp own ho src g e) : PE X fr S (Rp.lst R)).okay (fun γ => src.okay γ /\ (src.val γ).length <= sizeLine /\ ∀ a ∈ src.val γ,e.okay (g.put a γ)) := rfl
theorem vP {S' : Sta} (own : List Nat) (ho : (own.all fun i => decide (i < fr.n) && !fr.own i) = true) (src : SR X fr S A) (g : TG fr (wipeS own S) S' A) (e : PE X fr S' R) : Eq ((PE.comp own ho src g e) : PE X fr S (Rp.lst R)).val (fun γ => (src.val γ).map fun a => e.val (g.put a γ)) := rfl
theorem wA (e : PE X fr S R) : Eq ((PE.i e) : IE X Z fr S R).code (e.code) := rfl
theorem fW (e : PE X fr S R) : Eq ((PE.i e) : IE X Z fr S R).cost (0) := rfl
theorem wB (e : PE X fr S R) : Eq ((PE.i e) : IE X Z fr S R).wp (fun γ P => e.okay γ /\ P (e.val γ)) := rfl
theorem rN (e : OE X fr S R) : Eq ((OE.i e) : IO X Z fr S R).code (e.code) := rfl
theorem fN (e : OE X fr S R) : Eq ((OE.i e) : IO X Z fr S R).cost (0) := rfl
theorem rO (e : OE X fr S R) : Eq ((OE.i e) : IO X Z fr S R).wp (fun γ P => e.okay γ /\ P (e.val γ)) := rfl
theorem qE [NoRef R] (e : IE X Z fr S R) : Eq ((IE.o e) : IO X Z fr S R).code (e.code) := rfl
theorem e9 [NoRef R] (e : IE X Z fr S R) : Eq ((IE.o e) : IO X Z fr S R).cost (e.cost) := rfl
theorem qF [NoRef R] (e : IE X Z fr S R) : Eq ((IE.o e) : IO X Z fr S R).wp (e.wp) := rfl
theorem pU (e : IE X Z fr S A) (v : α -> ρ) (h : ∀ a,A.enc a = R.enc (v a)) : Eq ((IE.conv e v h) : IE X Z fr S R).code (e.code) := rfl
theorem eV (e : IE X Z fr S A) (v : α -> ρ) (h : ∀ a,A.enc a = R.enc (v a)) : Eq ((IE.conv e v h) : IE X Z fr S R).cost (e.cost) := rfl
theorem pV (e : IE X Z fr S A) (v : α -> ρ) (h : ∀ a,A.enc a = R.enc (v a)) : Eq ((IE.conv e v h) : IE X Z fr S R).wp (fun γ P => e.wp γ fun a => P (v a)) := rfl
theorem pO (e : IE X Z fr S A) (oy : α -> Prop) (v : α -> ρ) (h : ∀ a,oy a -> A.enc a = R.enc (v a)) : Eq ((IE.as e oy v h) : IE X Z fr S R).code (e.code) := rfl
theorem eS (e : IE X Z fr S A) (oy : α -> Prop) (v : α -> ρ) (h : ∀ a,oy a -> A.enc a = R.enc (v a)) : Eq ((IE.as e oy v h) : IE X Z fr S R).cost (e.cost) := rfl
theorem pP (e : IE X Z fr S A) (oy : α -> Prop) (v : α -> ρ) (h : ∀ a,oy a -> A.enc a = R.enc (v a)) : Eq ((IE.as e oy v h) : IE X Z fr S R).wp (fun γ P => e.wp γ fun a => oy a /\ P (v a)) := rfl
theorem qQ (e : IE X Z fr S Rp.nat) : Eq ((IE.up e) : IE X Z fr S Rp.int).code e.code := rfl
theorem fF (e : IE X Z fr S Rp.nat) : Eq ((IE.up e) : IE X Z fr S Rp.int).cost e.cost := rfl
theorem qR (e : IE X Z fr S Rp.nat) : Eq ((IE.up e) : IE X Z fr S Rp.int).wp (fun γ P => e.wp γ fun a => P ((fun n => (n : Int)) a)) := rfl
theorem qM (e : IE X Z fr S A) : Eq ((IE.someO e) : IE X Z fr S (Rp.opt A)).code e.code := rfl
theorem fD (e : IE X Z fr S A) : Eq ((IE.someO e) : IE X Z fr S (Rp.opt A)).cost e.cost := rfl
theorem qN (e : IE X Z fr S A) : Eq ((IE.someO e) : IE X Z fr S (Rp.opt A)).wp (fun γ P => e.wp γ fun a => P (Option.some a)) := rfl
theorem pW [Inhabited α] (e : IE X Z fr S (Rp.opt A)) : Eq ((IE.get e) : IE X Z fr S A).code e.code := rfl
theorem eW [Inhabited α] (e : IE X Z fr S (Rp.opt A)) : Eq ((IE.get e) : IE X Z fr S A).cost e.cost := rfl
theorem pX [Inhabited α] (e : IE X Z fr S (Rp.opt A)) : Eq ((IE.get e) : IE X Z fr S A).wp (fun γ P => e.wp γ fun a => (fun o => o.isSome = true) a /\ P ((fun o => o.getD default) a)) := rfl
theorem pJ (f : Op1 A R) (a : IO X Z fr S A) : Eq ((IE.ap1 f a) : IE X Z fr S R).code (f.cd a.code) := rfl
theorem eQ (f : Op1 A R) (a : IO X Z fr S A) : Eq ((IE.ap1 f a) : IE X Z fr S R).cost (a.cost) := rfl
theorem pK (f : Op1 A R) (a : IO X Z fr S A) : Eq ((IE.ap1 f a) : IE X Z fr S R).wp (fun γ P => a.wp γ fun x => f.okay x /\ P (f.val x)) := rfl
theorem pM [NoRef B] (f : Op2 A B R) (a : IO X Z fr S A) (c : IE X Z fr S B) : Eq ((IE.ap2 f a c) : IE X Z fr S R).code (f.cd a.code c.code) := rfl
theorem eR [NoRef B] (f : Op2 A B R) (a : IO X Z fr S A) (c : IE X Z fr S B) : Eq ((IE.ap2 f a c) : IE X Z fr S R).cost (a.cost + c.cost) := rfl
theorem pN [NoRef B] (f : Op2 A B R) (a : IO X Z fr S A) (c : IE X Z fr S B) : Eq ((IE.ap2 f a c) : IE X Z fr S R).wp (fun γ P => a.wp γ fun x => c.wp γ fun y => f.okay x y /\ P (f.val x y)) := rfl
theorem pF (a c : IE X Z fr S Rp.bool) : Eq ((IE.and a c) : IE X Z fr S Rp.bool).code (.and a.code c.code) := rfl
theorem eO (a c : IE X Z fr S Rp.bool) : Eq ((IE.and a c) : IE X Z fr S Rp.bool).cost (a.cost + c.cost) := rfl
theorem pG (a c : IE X Z fr S Rp.bool) : Eq ((IE.and a c) : IE X Z fr S Rp.bool).wp (fun γ P => a.wp γ fun x => (x = true -> c.wp γ P) /\ (x = false -> P false)) := rfl
theorem qG (a c : IE X Z fr S Rp.bool) : Eq ((IE.or a c) : IE X Z fr S Rp.bool).code (.or a.code c.code) := rfl
theorem fA (a c : IE X Z fr S Rp.bool) : Eq ((IE.or a c) : IE X Z fr S Rp.bool).cost (a.cost + c.cost) := rfl
theorem qH (a c : IE X Z fr S Rp.bool) : Eq ((IE.or a c) : IE X Z fr S Rp.bool).wp (fun γ P => a.wp γ fun x => (x = true -> P true) /\ (x = false -> c.wp γ P)) := rfl
theorem p7 (t : IO X Z fr S Rp.bool) (a c : IE X Z fr S R) : Eq ((IE.ite t a c) : IE X Z fr S R).code (.ife t.code a.code c.code) := rfl
theorem eY (t : IO X Z fr S Rp.bool) (a c : IE X Z fr S R) : Eq ((IE.ite t a c) : IE X Z fr S R).cost (t.cost + (a.cost + c.cost)) := rfl
theorem p8 (t : IO X Z fr S Rp.bool) (a c : IE X Z fr S R) : Eq ((IE.ite t a c) : IE X Z fr S R).wp (fun γ P => t.wp γ fun x => (x = true -> a.wp γ P) /\ (x = false -> c.wp γ P)) := rfl
theorem qC (a : IE X Z fr S Rp.int) : Eq ((IE.neg a) : IE X Z fr S Rp.int).code (.neg a.code) := rfl
theorem e8 (a : IE X Z fr S Rp.int) : Eq ((IE.neg a) : IE X Z fr S Rp.int).cost (a.cost) := rfl
theorem qD (a : IE X Z fr S Rp.int) : Eq ((IE.neg a) : IE X Z fr S Rp.int).wp (fun γ P => a.wp γ fun x => P (-x)) := rfl
theorem yQ {E : τ -> List D} (e : PEs X fr S E) : Eq ((PEs.i e) : IEs X Z fr S E).code (e.code) := rfl
theorem fX {E : τ -> List D} (e : PEs X fr S E) : Eq ((PEs.i e) : IEs X Z fr S E).cost (0) := rfl
theorem yR {E : τ -> List D} (e : PEs X fr S E) : Eq ((PEs.i e) : IEs X Z fr S E).wp (fun γ P => e.okay γ /\ P (e.val γ)) := rfl
theorem qY  : Eq (IEs.nil : IEs X Z fr S encN).code (.nil) := rfl
theorem fJ  : Eq (IEs.nil : IEs X Z fr S encN).cost (0) := rfl
theorem qZ  : Eq (IEs.nil : IEs X Z fr S encN).wp (fun γ P => P ()) := rfl
theorem qW {E : τ -> List D} (a : IE X Z fr S A) (r : IEs X Z fr S E) : Eq ((IEs.cons a r) : IEs X Z fr S (encC A E)).code (.cons a.code r.code) := rfl
theorem fI {E : τ -> List D} (a : IE X Z fr S A) (r : IEs X Z fr S E) : Eq ((IEs.cons a r) : IEs X Z fr S (encC A E)).cost (a.cost + r.cost) := rfl
theorem qX {E : τ -> List D} (a : IE X Z fr S A) (r : IEs X Z fr S E) : Eq ((IEs.cons a r) : IEs X Z fr S (encC A E)).wp (fun γ P => a.wp γ fun x => r.wp γ fun y => P (x,y)) := rfl
theorem qU  : Eq (IEl.nil : IEl X Z fr S R).code (.nil) := rfl
theorem fH  : Eq (IEl.nil : IEl X Z fr S R).cost (0) := rfl
theorem qV  : Eq (IEl.nil : IEl X Z fr S R).wp (fun γ P => P []) := rfl
theorem qS (a : IE X Z fr S R) (r : IEl X Z fr S R) : Eq ((IEl.cons a r) : IEl X Z fr S R).code (.cons a.code r.code) := rfl
theorem fG (a : IE X Z fr S R) (r : IEl X Z fr S R) : Eq ((IEl.cons a r) : IEl X Z fr S R).cost (a.cost + r.cost) := rfl
theorem qT (a : IE X Z fr S R) (r : IEl X Z fr S R) : Eq ((IEl.cons a r) : IEl X Z fr S R).wp (fun γ P => a.wp γ fun x => r.wp γ fun y => P (x :: y)) := rfl
theorem qA (es : IEl X Z fr S R) (hn : decide (es.n <= 4096) = true) : Eq ((IE.lst es hn) : IE X Z fr S (Rp.lst R)).code (.lst es.code) := rfl
theorem eZ (es : IEl X Z fr S R) (hn : decide (es.n <= 4096) = true) : Eq ((IE.lst es hn) : IE X Z fr S (Rp.lst R)).cost (es.cost) := rfl
theorem qB (es : IEl X Z fr S R) (hn : decide (es.n <= 4096) = true) : Eq ((IE.lst es hn) : IE X Z fr S (Rp.lst R)).wp (es.wp) := rfl
theorem qO (es : IEl X Z fr S R) (hn : decide (es.n <= 4096) = true) : Eq ((IE.tup es hn) : IE X Z fr S (Rp.tup R)).code (.tup es.code) := rfl
theorem fE (es : IEl X Z fr S R) (hn : decide (es.n <= 4096) = true) : Eq ((IE.tup es hn) : IE X Z fr S (Rp.tup R)).cost (es.cost) := rfl
theorem qP (es : IEl X Z fr S R) (hn : decide (es.n <= 4096) = true) : Eq ((IE.tup es hn) : IE X Z fr S (Rp.tup R)).wp (es.wp) := rfl
theorem qK (a : IE X Z fr S A) (c : IE X Z fr S B) : Eq ((IE.pr a c) : IE X Z fr S (Rp.pr A B)).code (.tup (.cons a.code (.cons c.code .nil))) := rfl
theorem fC (a : IE X Z fr S A) (c : IE X Z fr S B) : Eq ((IE.pr a c) : IE X Z fr S (Rp.pr A B)).cost (a.cost + c.cost) := rfl
theorem qL (a : IE X Z fr S A) (c : IE X Z fr S B) : Eq ((IE.pr a c) : IE X Z fr S (Rp.pr A B)).wp (fun γ P => a.wp γ fun x => c.wp γ fun y => P (x,y)) := rfl
theorem qI (a : IE X Z fr S A) (c : IE X Z fr S B) (e : IE X Z fr S C) : Eq ((IE.pr3 a c e) : IE X Z fr S (Rp.pr3 A B C)).code (.tup (.cons a.code (.cons c.code (.cons e.code .nil)))) := rfl
theorem fB (a : IE X Z fr S A) (c : IE X Z fr S B) (e : IE X Z fr S C) : Eq ((IE.pr3 a c e) : IE X Z fr S (Rp.pr3 A B C)).cost (a.cost + (c.cost + e.cost)) := rfl
theorem qJ (a : IE X Z fr S A) (c : IE X Z fr S B) (e : IE X Z fr S C) : Eq ((IE.pr3 a c e) : IE X Z fr S (Rp.pr3 A B C)).wp (fun γ P => a.wp γ fun x => c.wp γ fun y => e.wp γ fun z => P (x,y,z)) := rfl
theorem pQ {E : τ -> List D} (f : PF X.G E R) (as : IEs X Z fr S E) : Eq ((IE.call f as) : IE X Z fr S R).code (.call f.name as.code) := rfl
theorem eT {E : τ -> List D} (f : PF X.G E R) (as : IEs X Z fr S E) : Eq ((IE.call f as) : IE X Z fr S R).cost (as.cost) := rfl
theorem pR {E : τ -> List D} (f : PF X.G E R) (as : IEs X Z fr S E) : Eq ((IE.call f as) : IE X Z fr S R).wp (fun γ P => as.wp γ fun t => f.pre t /\ P (f.val t)) := rfl
theorem pY {E : τ -> List D} (f : IF X.G Z E R) (as : IEs X Z fr S E) : Eq ((IE.icall f as) : IE X Z fr S R).code (.call f.name as.code) := rfl
theorem eX {E : τ -> List D} (f : IF X.G Z E R) (as : IEs X Z fr S E) : Eq ((IE.icall f as) : IE X Z fr S R).cost (as.cost + f.cost) := rfl
theorem pZ {E : τ -> List D} (f : IF X.G Z E R) (as : IEs X Z fr S E) : Eq ((IE.icall f as) : IE X Z fr S R).wp (fun γ P => as.wp γ fun t => f.pre t /\ ∀ r,f.post t r -> P r) := rfl
theorem zL (s : SR X fr S A) : Eq ((SR.i s) : ISR X Z fr S A).code (s.code) := rfl
theorem gG (s : SR X fr S A) : Eq ((SR.i s) : ISR X Z fr S A).cost (0) := rfl
theorem zM (s : SR X fr S A) : Eq ((SR.i s) : ISR X Z fr S A).wp (fun γ P => s.okay γ /\ P (s.val γ)) := rfl
theorem q7 (e : IE X Z fr S Rp.nat) : Eq ((ISR.rng e) : ISR X Z fr S Rp.nat).code (.rng1 e.code) := rfl
theorem fL (e : IE X Z fr S Rp.nat) : Eq ((ISR.rng e) : ISR X Z fr S Rp.nat).cost (e.cost) := rfl
theorem q8 (e : IE X Z fr S Rp.nat) : Eq ((ISR.rng e) : ISR X Z fr S Rp.nat).wp (fun γ P => e.wp γ fun n => n < 2 ^ 62 /\ P (List.range n)) := rfl
theorem q5 (o : IO X Z fr S (Rp.lst A)) : Eq ((ISR.lst o) : ISR X Z fr S A).code (.val o.code) := rfl
theorem fK (o : IO X Z fr S (Rp.lst A)) : Eq ((ISR.lst o) : ISR X Z fr S A).cost (o.cost) := rfl
theorem q6 (o : IO X Z fr S (Rp.lst A)) : Eq ((ISR.lst o) : ISR X Z fr S A).wp (o.wp) := rfl
theorem q9 (o : IO X Z fr S (Rp.tup A)) : Eq ((ISR.tup o) : ISR X Z fr S A).code (.val o.code) := rfl
theorem fM (o : IO X Z fr S (Rp.tup A)) : Eq ((ISR.tup o) : ISR X Z fr S A).cost (o.cost) := rfl
theorem rA (o : IO X Z fr S (Rp.tup A)) : Eq ((ISR.tup o) : ISR X Z fr S A).wp (o.wp) := rfl
theorem pS {S' : Sta} (own : List Nat) (ho : (own.all fun i => decide (i < fr.n) && !fr.own i) = true) (src : ISR X Z fr S A) (g : TG fr (wipeS own S) S' A) (e : IE X Z fr S' R) : Eq ((IE.comp own ho src g e) : IE X Z fr S (Rp.lst R)).code (.comp own g.code src.code .no e.code) := rfl
theorem eU {S' : Sta} (own : List Nat) (ho : (own.all fun i => decide (i < fr.n) && !fr.own i) = true) (src : ISR X Z fr S A) (g : TG fr (wipeS own S) S' A) (e : IE X Z fr S' R) : Eq ((IE.comp own ho src g e) : IE X Z fr S (Rp.lst R)).cost (src.cost + 4096 * e.cost) := rfl
theorem pT {S' : Sta} (own : List Nat) (ho : (own.all fun i => decide (i < fr.n) && !fr.own i) = true) (src : ISR X Z fr S A) (g : TG fr (wipeS own S) S' A) (e : IE X Z fr S' R) : Eq ((IE.comp own ho src g e) : IE X Z fr S (Rp.lst R)).wp (fun γ P => src.wp γ fun xs => xs.length <= 4096 /\ compI (fun _ k => k true) (fun a k => e.wp (g.put a γ) k) xs P) := rfl
theorem zB (h : subS S S' = true) : Eq ((PS.nil h) : PS X Z fr Sl S S' R).code (.nil) := rfl
theorem gB (h : subS S S' = true) : Eq ((PS.nil h) : PS X Z fr Sl S S' R).cost (0) := rfl
theorem zC (h : subS S S' = true) : Eq ((PS.nil h) : PS X Z fr Sl S S' R).wp (fun γ K => K.nx γ) := rfl
theorem y5 (s : PC X Z fr Sl S S1 R) (r : PS X Z fr Sl S1 S' R) : Eq ((PS.cons s r) : PS X Z fr Sl S S' R).code (.cons s.code r.code) := rfl
theorem fY (s : PC X Z fr Sl S S1 R) (r : PS X Z fr Sl S1 S' R) : Eq ((PS.cons s r) : PS X Z fr Sl S S' R).cost (s.cost + r.cost) := rfl
theorem y6 (s : PC X Z fr Sl S S1 R) (r : PS X Z fr Sl S1 S' R) : Eq ((PS.cons s r) : PS X Z fr Sl S S' R).wp (fun γ K => s.wp γ ⟨fun γ' => r.wp γ' K,K.rt,K.bk,K.ct⟩) := rfl
theorem y7 (s : PC X Z fr Sl S S' R) : Eq ((PS.last s) : PS X Z fr Sl S S' R).code (.cons s.code .nil) := rfl
theorem fZ (s : PC X Z fr Sl S S' R) : Eq ((PS.last s) : PS X Z fr Sl S S' R).cost (s.cost) := rfl
theorem y8 (s : PC X Z fr Sl S S' R) : Eq ((PS.last s) : PS X Z fr Sl S S' R).wp (fun γ K => s.wp γ K) := rfl
theorem uQ (g : TG fr S S1 A) (e : IE X Z fr S A) : Eq ((PC.set g e) : PC X Z fr Sl S S1 R).code (.set g.code e.code) := rfl
theorem fU (g : TG fr S S1 A) (e : IE X Z fr S A) : Eq ((PC.set g e) : PC X Z fr Sl S S1 R).cost (e.cost) := rfl
theorem uR (g : TG fr S S1 A) (e : IE X Z fr S A) : Eq ((PC.set g e) : PC X Z fr Sl S S1 R).wp (fun γ K => e.wp γ fun a => K.nx (g.put a γ)) := rfl
theorem uK {i : Nat} (l : OLn fr i A) (e : IE X Z fr S (Rp.lst A)) : Eq ((PC.own l e) : PC X Z fr Sl S ((i,false) :: S) R).code (.own i e.code) := rfl
theorem fR {i : Nat} (l : OLn fr i A) (e : IE X Z fr S (Rp.lst A)) : Eq ((PC.own l e) : PC X Z fr Sl S ((i,false) :: S) R).cost (e.cost) := rfl
theorem uL {i : Nat} (l : OLn fr i A) (e : IE X Z fr S (Rp.lst A)) : Eq ((PC.own l e) : PC X Z fr Sl S ((i,false) :: S) R).wp (fun γ K => e.wp γ fun a => K.nx (l.set a γ)) := rfl
theorem uG (is : List Nat) (s : PC X Z fr Sl (frzS is S) S' R) : Eq ((PC.frz is s) : PC X Z fr Sl S S' R).code (.fr is s.code) := rfl
theorem fP (is : List Nat) (s : PC X Z fr Sl (frzS is S) S' R) : Eq ((PC.frz is s) : PC X Z fr Sl S S' R).cost (s.cost) := rfl
theorem uH (is : List Nat) (s : PC X Z fr Sl (frzS is S) S' R) : Eq ((PC.frz is s) : PC X Z fr Sl S S' R).wp (s.wp) := rfl
theorem uS {i : Nat} (l : OLn fr i A) (h : S.lookup i = some false) (ix : IE X Z fr S Rp.nat) (e : IE X Z fr S A) : Eq ((PC.setix l h ix e) : PC X Z fr Sl S S R).code (.setix (.peek i) ix.code e.code) := rfl
theorem fV {i : Nat} (l : OLn fr i A) (h : S.lookup i = some false) (ix : IE X Z fr S Rp.nat) (e : IE X Z fr S A) : Eq ((PC.setix l h ix e) : PC X Z fr Sl S S R).cost (e.cost + ix.cost) := rfl
theorem uT {i : Nat} (l : OLn fr i A) (h : S.lookup i = some false) (ix : IE X Z fr S Rp.nat) (e : IE X Z fr S A) : Eq ((PC.setix l h ix e) : PC X Z fr Sl S S R).wp (fun γ K => e.wp γ fun a => ix.wp γ fun j => j < (l.get γ).length /\ K.nx (l.set ((l.get γ).set j a) γ)) := rfl
theorem uM (e : IE X Z fr S R) : Eq ((PC.ret e) : PC X Z fr Sl S S' R).code (.ret e.code) := rfl
theorem fS (e : IE X Z fr S R) : Eq ((PC.ret e) : PC X Z fr Sl S S' R).cost (e.cost) := rfl
theorem uN (e : IE X Z fr S R) : Eq ((PC.ret e) : PC X Z fr Sl S S' R).wp (fun γ K => e.wp γ K.rt) := rfl
theorem uI (t : IO X Z fr S Rp.bool) (a c : PS X Z fr Sl S S' R) : Eq ((PC.ifs t a c) : PC X Z fr Sl S S' R).code (.ifs t.code a.code c.code) := rfl
theorem fQ (t : IO X Z fr S Rp.bool) (a c : PS X Z fr Sl S S' R) : Eq ((PC.ifs t a c) : PC X Z fr Sl S S' R).cost (t.cost + (a.cost + c.cost)) := rfl
theorem uJ (t : IO X Z fr S Rp.bool) (a c : PS X Z fr Sl S S' R) : Eq ((PC.ifs t a c) : PC X Z fr Sl S S' R).wp (fun γ K => t.wp γ fun x => (x = true -> a.wp γ K) /\ (x = false -> c.wp γ K)) := rfl
theorem uE (src : ISR X Z fr S A) (Sh : Sta) (hs : subS S Sh = true) (g : TG fr Sh S1 A) (body : PS X Z fr Sh S1 Sh R) : Eq ((PC.for_ src Sh hs g body) : PC X Z fr Sl S Sh R).code (.for_ g.code src.code body.code) := rfl
theorem fO (src : ISR X Z fr S A) (Sh : Sta) (hs : subS S Sh = true) (g : TG fr Sh S1 A) (body : PS X Z fr Sh S1 Sh R) : Eq ((PC.for_ src Sh hs g body) : PC X Z fr Sl S Sh R).cost (src.cost + 4096 * body.cost) := rfl
theorem uF (src : ISR X Z fr S A) (Sh : Sta) (hs : subS S Sh = true) (g : TG fr Sh S1 A) (body : PS X Z fr Sh S1 Sh R) : Eq ((PC.for_ src Sh hs g body) : PC X Z fr Sl S Sh R).wp (fun γ K => src.wp γ fun xs => (body.cost = 0 \/ xs.length <= 4096) /\ forI body.wp g.put xs γ K) := rfl
theorem y9 {E : τ -> List D} {H : Nat -> SX} (i : Nat) (h : Frs frs i) (f : CF X.G E H) (as : PEs X (frs 0) S E) (rest : (n : Nat) -> PS X (H n) (frs n) Sl ((i,false) :: S) S' R) (hcode : ∀ n,(rest n).code = (rest 0).code) (hc : ∀ n,decide ((rest n).cost <= BIG) = true) (hSl : Sl.lookup i = none) (hS' : S'.lookup i = none) : Eq ((PS.newh i h f as rest hcode hc hSl hS') : PS X Top (frs 0) Sl S S' R).code (.cons (.set (.nm i) (.call f.name as.code)) (rest 0).code) := rfl
theorem gA {E : τ -> List D} {H : Nat -> SX} (i : Nat) (h : Frs frs i) (f : CF X.G E H) (as : PEs X (frs 0) S E) (rest : (n : Nat) -> PS X (H n) (frs n) Sl ((i,false) :: S) S' R) (hcode : ∀ n,(rest n).code = (rest 0).code) (hc : ∀ n,decide ((rest n).cost <= BIG) = true) (hSl : Sl.lookup i = none) (hS' : S'.lookup i = none) : Eq ((PS.newh i h f as rest hcode hc hSl hS') : PS X Top (frs 0) Sl S S' R).cost (0) := rfl
theorem zA {E : τ -> List D} {H : Nat -> SX} (i : Nat) (h : Frs frs i) (f : CF X.G E H) (as : PEs X (frs 0) S E) (rest : (n : Nat) -> PS X (H n) (frs n) Sl ((i,false) :: S) S' R) (hcode : ∀ n,(rest n).code = (rest 0).code) (hc : ∀ n,decide ((rest n).cost <= BIG) = true) (hSl : Sl.lookup i = none) (hS' : S'.lookup i = none) : Eq ((PS.newh i h f as rest hcode hc hSl hS') : PS X Top (frs 0) Sl S S' R).wp (fun γ K => as.okay γ /\ f.pre (as.val γ) /\ ∀ n,(rest n).wp γ K) := rfl
theorem tE  : Eq (Op2.addS : Op2 Rp.str Rp.str Rp.str).cd (fun c d => CE.bin .add c d) := rfl
theorem tF  : Eq (Op2.addS : Op2 Rp.str Rp.str Rp.str).okay (fun x y => x.length + y.length <= sizeLine) := rfl
theorem tG  : Eq (Op2.addS : Op2 Rp.str Rp.str Rp.str).val (fun x y => x ++ y) := rfl
theorem s6  : Eq (Op1.strI : Op1 Rp.int Rp.str).cd (fun c => CE.bi .str (.cons c .nil)) := rfl
theorem s7  : Eq (Op1.strI : Op1 Rp.int Rp.str).okay (fun i => i.natAbs.log2 < 1920) := rfl
theorem s8  : Eq (Op1.strI : Op1 Rp.int Rp.str).val (fun i => toString i) := rfl
theorem sL (sep : Str) : Eq ((Op1.joinL sep) : Op1 (Rp.lst Rp.str) Rp.str).cd (fun c => .sm .join (.str sep) c) := rfl
theorem sM (sep : Str) : Eq ((Op1.joinL sep) : Op1 (Rp.lst Rp.str) Rp.str).okay (fun ss => (ss.map (·.length)).sum + ss.length * sep.length <= 16777216) := rfl
theorem sN (sep : Str) : Eq ((Op1.joinL sep) : Op1 (Rp.lst Rp.str) Rp.str).val (fun ss => PySem.Txt.join sep ss) := rfl
theorem xW (x y : PE X fr S Rp.str) : Eq ((PE.split x y) : PE X fr S (Rp.lst Rp.str)).code (.sm .split x.code y.code) := rfl
theorem xX (x y : PE X fr S Rp.str) : Eq ((PE.split x y) : PE X fr S (Rp.lst Rp.str)).okay (fun γ => x.okay γ /\ y.okay γ /\ ((y.val γ).length == 0) = false /\ (x.val γ).length + 2 <= sizeLine) := rfl
theorem xY (x y : PE X fr S Rp.str) : Eq ((PE.split x y) : PE X fr S (Rp.lst Rp.str)).val (fun γ => PySem.Txt.split (x.val γ) (y.val γ)) := rfl
theorem vZ (l : List (Int × Str)) (h : dAll [] (l.map fun p => ((.inl p.1 : Key),D.str p.2)) = l.map fun p => ((.inl p.1 : Key),D.str p.2)) (e : PE X fr S Rp.nat.opt) (z : Str) : Eq ((PE.getn l h e z) : PE X fr S Rp.str).code (.dgetn (.ddis (dkK l) (dkC l)) e.code (.str z)) := rfl
theorem v5 (l : List (Int × Str)) (h : dAll [] (l.map fun p => ((.inl p.1 : Key),D.str p.2)) = l.map fun p => ((.inl p.1 : Key),D.str p.2)) (e : PE X fr S Rp.nat.opt) (z : Str) : Eq ((PE.getn l h e z) : PE X fr S Rp.str).okay (e.okay) := rfl
theorem v6 (l : List (Int × Str)) (h : dAll [] (l.map fun p => ((.inl p.1 : Key),D.str p.2)) = l.map fun p => ((.inl p.1 : Key),D.str p.2)) (e : PE X fr S Rp.nat.opt) (z : Str) : Eq ((PE.getn l h e z) : PE X fr S Rp.str).val (fun γ => (ddF l (e.val γ)).getD z) := rfl
theorem wM (R : Rp ρ) (x : Str) (l : List (Str × ρ)) (h : X.con x = some (.dct (l.map fun p => ((.inr p.1 : Key),R.enc p.2)))) (e : PE X fr S Rp.str) (z : PE X fr S R) : Eq ((PE.kget R x l h e z) : PE X fr S R).code (.kget x e.code z.code) := rfl
theorem wN (R : Rp ρ) (x : Str) (l : List (Str × ρ)) (h : X.con x = some (.dct (l.map fun p => ((.inr p.1 : Key),R.enc p.2)))) (e : PE X fr S Rp.str) (z : PE X fr S R) : Eq ((PE.kget R x l h e z) : PE X fr S R).okay (fun γ => e.okay γ /\ z.okay γ) := rfl
theorem wO (R : Rp ρ) (x : Str) (l : List (Str × ρ)) (h : X.con x = some (.dct (l.map fun p => ((.inr p.1 : Key),R.enc p.2)))) (e : PE X fr S Rp.str) (z : PE X fr S R) : Eq ((PE.kget R x l h e z) : PE X fr S R).val (fun γ => (kdF l (e.val γ)).getD (z.val γ)) := rfl
theorem zI (e : PE X fr S Rp.str) : Eq ((SR.chars e) : SR X fr S Rp.str).code (.chars e.code) := rfl
theorem zJ (e : PE X fr S Rp.str) : Eq ((SR.chars e) : SR X fr S Rp.str).okay (e.okay) := rfl
theorem zK (e : PE X fr S Rp.str) : Eq ((SR.chars e) : SR X fr S Rp.str).val (fun γ => signs (e.val γ)) := rfl
theorem uO {Z : SX} {Sl S' : Sta} {ρ : Type} {R : Rp ρ} : Eq (PC.rse : PC X Z fr Sl S S' R).code (.rse) := rfl
theorem fT {Z : SX} {Sl S' : Sta} {ρ : Type} {R : Rp ρ} : Eq (PC.rse : PC X Z fr Sl S S' R).cost (0) := rfl
theorem uP {Z : SX} {Sl S' : Sta} {ρ : Type} {R : Rp ρ} : Eq (PC.rse : PC X Z fr Sl S S' R).wp (fun _ _ => False) := rfl
theorem sX [DecidableEq α] (A : Rp α) [h : EqR A] (hd : decide (h.dep <= 60) = true) : Eq ((Op1.repr A hd) : Op1 A Rp.str).cd (fun c => CE.bi .repr (.cons c .nil)) := rfl
theorem sY [DecidableEq α] (A : Rp α) [h : EqR A] (hd : decide (h.dep <= 60) = true) : Eq ((Op1.repr A hd) : Op1 A Rp.str).okay (fun a => (A.enc a).rm <= 16777216) := rfl
theorem sZ [DecidableEq α] (A : Rp α) [h : EqR A] (hd : decide (h.dep <= 60) = true) : Eq ((Op1.repr A hd) : Op1 A Rp.str).val (fun a => (h.py a).shown) := rfl
theorem uX [h : OkR A] (e : PE X fr S A) : Eq ((PE.any e) : PE X fr S Rp.any).code (e.code) := rfl
theorem uY [h : OkR A] (e : PE X fr S A) : Eq ((PE.any e) : PE X fr S Rp.any).okay (e.okay) := rfl
theorem uZ [h : OkR A] (e : PE X fr S A) : Eq ((PE.any e) : PE X fr S Rp.any).val (fun γ => toAny A (e.val γ)) := rfl
theorem pH [h : OkR A] (e : IE X Z fr S A) : Eq ((IE.any e) : IE X Z fr S Rp.any).code e.code := rfl
theorem eP [h : OkR A] (e : IE X Z fr S A) : Eq ((IE.any e) : IE X Z fr S Rp.any).cost e.cost := rfl
theorem pI [h : OkR A] (e : IE X Z fr S A) : Eq ((IE.any e) : IE X Z fr S Rp.any).wp (fun γ P => e.wp γ fun a => P ((toAny A) a)) := rfl
theorem aLa {S1 S2 S3 S4 : Sta} (a : TG fr S S1 A) (b : TG fr S1 S2 B) (c : TG fr S2 S3 C) (d : TG fr S3 S4 R) : Eq ((TG.pr4 a b c d) : TG fr S S4 (Rp.pr4 A B C R)).code (.tp (.cons a.code (.cons b.code (.cons c.code (.cons d.code .nil))))) := rfl
theorem aMa {S1 S2 S3 S4 : Sta} (a : TG fr S S1 A) (b : TG fr S1 S2 B) (c : TG fr S2 S3 C) (d : TG fr S3 S4 R) : Eq ((TG.pr4 a b c d) : TG fr S S4 (Rp.pr4 A B C R)).put (fun p γ => d.put p.2.2.2 (c.put p.2.2.1 (b.put p.2.1 (a.put p.1 γ)))) := rfl
theorem aFa {x : α} : T1 x = True := rfl
theorem aGa {x : α} {y : β} : T2 x y = True := rfl
end
end Sp
set_option autoImplicit true
namespace Lw
open PySem PySem.Spec PyProof.Rows L2 Sp
def topS (i : Nat) : Stmt := PySem.Challenge.pw_signpoly_k75_functions_written.main.body.getD i (.Pass ⟨0,0,0,0⟩)
def kT : Fn := ⟨["f","value"],1,(.cons (.ret (.sm .join (.str "") (.comp [1] (.nm 1) (.val (.var 0)) .no (.ife (.cmp .isn (.var 1) .non) (.str "-") (.bi .str (.cons (.var 1) .nil)))))) .nil)⟩
def iU : Fn := ⟨["thing"],1,(.cons (.ret (.and (.isi .int (.var 0)) (.not (.isi .bool (.var 0))))) .nil)⟩
def dD : Fn := ⟨["thing"],1,(.cons (.ret (.or (.cmp .isn (.var 0) .non) (.and (.call "is_whole" (.cons (.var 0) .nil)) (.chain .le .le (.glob "NO") (.var 0) (.glob "YES"))))) .nil)⟩
def gK : Fn := ⟨["thing","value","n"],1,(.cons (.ifs (.or (.not (.isi .tup (.var 0))) (.cmp .notin (.bi .len (.cons (.var 0) .nil)) (.comp [2] (.nm 2) (.rng1 (.bin .add (.glob "MOST_SWITCHES") (.int 1))) .no (.bin .shl (.int 1) (.var 2))))) (.cons (.ret (.bl false)) .nil) .nil) (.cons (.ret (.bi .all (.cons (.comp [1] (.nm 1) (.val (.var 0)) .no (.call "is_value" (.cons (.var 1) .nil))) .nil))) .nil))⟩
def iT : Fn := ⟨["thing"],1,(.cons (.ifs (.not (.isi .str (.var 0))) (.cons .rse .nil) .nil) (.cons (.ret (.var 0)) .nil))⟩
def iX : Fn := ⟨["text","signs","values","sign"],1,(.cons (.set (.nm 1) (.call "checked_text" (.cons (.var 0) .nil))) (.cons (.set (.nm 2) (.bi .tuple (.cons (.comp [3] (.nm 3) (.chars (.var 1)) .no (.kget "VALUES" (.var 3) (.neg (.int 1)))) .nil))) (.cons (.ifs (.not (.call "is_function" (.cons (.var 2) .nil))) (.cons .rse .nil) .nil) (.cons (.ret (.var 2)) .nil))))⟩
def gL : Fn := ⟨["_law_script","_law_k","_law_cell","_law_far","_law_seed"],2,(.cons (.set (.nm 2) (.int 0)) (.cons (.ifs (.cmp .lt (.var 1) (.bi .len (.cons (.var 0) .nil))) (.cons (.set (.nm 2) (.ix (.var 0) (.var 1))) .nil) .nil) (.cons (.set (.nm 3) (.bin .mul (.bin .mul (.bin .mul (.bin .pow (.int 10) (.int 60)) (.bin .pow (.int 10) (.int 60))) (.bin .pow (.int 10) (.int 60))) (.bin .pow (.int 10) (.int 60)))) (.cons (.set (.nm 4) (.bin .mod (.bin .mul (.bin .add (.bin .add (.bin .mod (.var 2) (.int 2147483629)) (.bin .mul (.int 7919) (.var 1))) (.int 11)) (.int 48271)) (.int 2147483647))) (.cons (.ret (.box (.lst (.cons (.bin .mul (.bin .mod (.bi .abs (.cons (.var 2) .nil)) (.var 3)) (.bi .int (.cons (.cmp .ge (.bi .abs (.cons (.var 2) .nil)) (.bin .pow (.int 10) (.int 18))) .nil))) (.cons (.var 4) (.cons (.int 0) .nil)))))) .nil)))))⟩
def gM : Fn := ⟨["_law_hand_here","_law_many","_law_digit"],2,(.cons (.ifs (.cmp .gt (.ix (.var 0) (.int 0)) (.int 0)) (.cons (.set (.nm 2) (.bin .mod (.ix (.var 0) (.int 0)) (.var 1))) (.cons (.setix (.var 0) (.int 0) (.bin .fdiv (.ix (.var 0) (.int 0)) (.var 1))) (.cons (.ret (.var 2)) .nil))) .nil) (.cons (.setix (.var 0) (.int 2) (.bin .add (.ix (.var 0) (.int 2)) (.int 1))) (.cons (.setix (.var 0) (.int 1) (.bin .mod (.bin .add (.bin .add (.bin .mul (.ix (.var 0) (.int 1)) (.int 39373)) (.int 12345)) (.bin .mul (.int 31) (.ix (.var 0) (.int 2)))) (.int 2147483647))) (.cons (.ret (.bin .mod (.bin .fdiv (.bin .mod (.bin .mul (.ix (.var 0) (.int 1)) (.bin .add (.bin .mod (.ix (.var 0) (.int 1)) (.int 40009)) (.int 3))) (.int 2147483629)) (.int 64)) (.var 1))) .nil))))⟩
def iV : Fn := ⟨["_law_hand_here","_law_some"],2,(.cons (.ret (.ix (.var 1) (.call "_law_take" (.cons (.var 0) (.cons (.bi .len (.cons (.var 1) .nil)) .nil))))) .nil)⟩
def kS : Fn := ⟨["_law_hand_here","_law_many","_law_few","_law_k"],2,(.cons (.set (.nm 2) (.call "_law_take" (.cons (.var 0) (.cons (.int 2) .nil)))) (.cons (.ret (.bi .tuple (.cons (.comp [3] (.nm 3) (.rng1 (.var 1)) .no (.ix (.lst (.cons (.int 1) (.cons (.int 0) (.cons (.int 1) (.cons (.int 0) (.cons .non .nil)))))) (.call "_law_take" (.cons (.var 0) (.cons (.bin .add (.int 4) (.var 2)) .nil))))) .nil))) .nil))⟩
def iW : Fn := ⟨["_law_found","_law_due"],2,(.cons (.ret (.cmp .eq (.bi .repr (.cons (.var 0) .nil)) (.bi .repr (.cons (.var 1) .nil)))) .nil)⟩
def kR : Fn := ⟨["_law_script","_law_k","_law_hand_here","_law_f","_law_one","_law_text","_law_value"],1,(.cons (.for_ (.nm 1) (.rng1 (.bin .add (.int 1) (.bi .min2 (.cons (.int 12) (.cons (.bi .len (.cons (.var 0) .nil)) .nil))))) (.cons (.set (.nm 2) (.call "_law_hand" (.cons (.var 0) (.cons (.var 1) .nil)))) (.cons (.set (.nm 3) (.call "_law_values" (.cons (.var 2) (.cons (.bin .shl (.int 1) (.call "_law_take" (.cons (.var 2) (.cons (.int 7) .nil)))) .nil)))) (.cons (.for_ (.nm 4) (.val (.lst (.cons (.var 3) (.cons (.bin .mul (.tup (.cons (.call "_law_pick" (.cons (.var 2) (.cons (.lst (.cons (.int 0) (.cons (.int 1) (.cons .non .nil)))) .nil))) .nil)) (.bi .len (.cons (.var 3) .nil))) (.cons (.var 3) .nil))))) (.cons (.set (.nm 5) (.str "")) (.cons (.for_ (.nm 6) (.val (.var 4)) (.cons (.set (.nm 5) (.bin .add (.var 5) (.dgetn (.ddis [.inl 1,.inl 0] (.cons (.str "1") (.cons (.str "0") .nil))) (.var 6) (.str "-")))) .nil)) (.cons (.ifs (.or (.not (.call "_law_same" (.cons (.call "show_function" (.cons (.var 4) .nil)) (.cons (.var 5) .nil)))) (.not (.call "_law_same" (.cons (.call "read_function" (.cons (.var 5) .nil)) (.cons (.var 4) .nil))))) (.cons (.ret (.bl false)) .nil) .nil) (.cons (.ifs (.not (.call "_law_same" (.cons (.call "read_function" (.cons (.call "show_function" (.cons (.var 4) .nil)) .nil)) (.cons (.var 4) .nil)))) (.cons (.ret (.bl false)) .nil) .nil) .nil))))) .nil)))) (.cons (.ret (.bl true)) .nil))⟩
def codes : List (Str × Fn) := [("show_function",kT),("is_whole",iU),("is_value",dD),("is_function",gK),("checked_text",iT),("read_function",iX),("_law_hand",gL),("_law_take",gM),("_law_pick",iV),("_law_values",kS),("_law_same",iW),("law",kR)]
def tb : Sp.Tb := ⟨[("show_function",1),("is_whole",1),("is_value",1),("is_function",1),("checked_text",1),("read_function",1),("_law_hand",2),("_law_take",2),("_law_pick",2),("_law_values",2),("_law_same",2),("law",1)],["abs","all","bool","int","isinstance","len","min","range","repr","str","tuple"],["MOST_SWITCHES","NO","YES"],[],[],[],[],["VALUES"],[]⟩
def cons : List (Str × D) := [("MOST_SWITCHES",(.int 6)),("NO",(.int 0)),("VALUES",(.dct [(.inr "0",.int 0),(.inr "1",.int 1),(.inr "-",.non)])),("YES",(.int 1))]
def tab : Tab := ⟨fun x => codes.lookup x,fun x => cons.lookup x⟩
def dfs : List Df := [⟨"show_function",topS 1,["f"],"show_function",none⟩,⟨"is_whole",topS 9,["thing"],"is_whole",none⟩,⟨"is_value",topS 10,["thing"],"is_value",none⟩,⟨"is_function",topS 11,["thing"],"is_function",none⟩,⟨"checked_text",topS 14,["thing"],"checked_text",none⟩,⟨"read_function",topS 15,["text"],"read_function",none⟩,⟨"_law_hand",topS 17,["_law_script","_law_k"],"_law_hand",none⟩,⟨"_law_take",topS 18,["_law_hand_here","_law_many"],"_law_take",none⟩,⟨"_law_pick",topS 19,["_law_hand_here","_law_some"],"_law_pick",none⟩,⟨"_law_values",topS 20,["_law_hand_here","_law_many"],"_law_values",none⟩,⟨"_law_same",topS 21,["_law_found","_law_due"],"_law_same",none⟩,⟨"law",topS 22,["_law_script"],"law",none⟩]
theorem chk_all : dfs.all (chkDf tb tab) = true := by decide +kernel
theorem chk_fns : fnsB tb dfs = true := by decide +kernel
theorem chk_bind : Sp.AllP BindOk dfs := ⟨fun _ _ _ _ _ _ us hl => match us,hl with | [_],_ => rfl,⟨fun _ _ _ _ _ _ us hl => match us,hl with | [_],_ => rfl,⟨fun _ _ _ _ _ _ us hl => match us,hl with | [_],_ => rfl,⟨fun _ _ _ _ _ _ us hl => match us,hl with | [_],_ => rfl,⟨fun _ _ _ _ _ _ us hl => match us,hl with | [_],_ => rfl,⟨fun _ _ _ _ _ _ us hl => match us,hl with | [_],_ => rfl,⟨fun _ _ _ _ _ _ us hl => match us,hl with | [_,_],_ => rfl,⟨fun _ _ _ _ _ _ us hl => match us,hl with | [_,_],_ => rfl,⟨fun _ _ _ _ _ _ us hl => match us,hl with | [_,_],_ => rfl,⟨fun _ _ _ _ _ _ us hl => match us,hl with | [_,_],_ => rfl,⟨fun _ _ _ _ _ _ us hl => match us,hl with | [_,_],_ => rfl,⟨fun _ _ _ _ _ _ us hl => match us,hl with | [_],_ => rfl,trivial⟩⟩⟩⟩⟩⟩⟩⟩⟩⟩⟩⟩
theorem a6a : tab.code "show_function" = some kT := by rfl
theorem aYa : tab.code "is_whole" = some iU := by rfl
theorem aXa : tab.code "is_value" = some dD := by rfl
theorem aWa : tab.code "is_function" = some gK := by rfl
theorem aVa : tab.code "checked_text" = some iT := by rfl
theorem a5a : tab.code "read_function" = some iX := by rfl
theorem a0a : tab.code "_law_hand" = some gL := by rfl
theorem a3a : tab.code "_law_take" = some gM := by rfl
theorem a1a : tab.code "_law_pick" = some iV := by rfl
theorem a4a : tab.code "_law_values" = some kS := by rfl
theorem a2a : tab.code "_law_same" = some iW := by rfl
theorem aZa : tab.code "law" = some kR := by rfl
end Lw
set_option autoImplicit true
set_option exponentiation.threshold 1200
namespace Lw
open PySem PySem.Spec PyProof.Rows L2 Sp
local macro_rules | `(tactic| simp! only [$xs,*] $[$l:location]?) => `(tactic| simp only [↓xF,↓xG,↓vC,↓vD,↓rE,↓rF,↓wR,↓wU,↓wD,↓wF,↓wZ,↓w4,↓vF,↓vG,↓x6,↓x7,↓w9,↓xA,↓yF,↓yG,↓rQ,↓rR,↓vU,↓vV,↓v8,↓v9,↓u5,↓u6,↓u9,↓vA,↓sG,↓sH,↓tI,↓tJ,↓tL,↓tM,↓tO,↓tP,↓tX,↓tY,↓sV,↓sW,↓uV,↓uW,↓xI,↓xJ,↓wK,↓wL,↓w6,↓w7,↓vL,↓vM,↓yT,↓yU,↓yO,↓yP,↓yL,↓yM,↓yI,↓yJ,↓wW,↓wX,↓x9,↓yA,↓xR,↓xS,↓xO,↓xP,↓xL,↓xM,↓vI,↓vJ,↓t6,↓t7,↓uC,↓uD,↓t9,↓uA,↓tR,↓tS,↓sJ,↓sK,↓vR,↓vS,↓rH,↓rJ,↓vX,↓vY,↓rL,↓rM,↓xU,↓xV,↓xC,↓xD,↓yC,↓yD,↓rT,↓rV,↓sP,↓sQ,↓sS,↓sT,↓rX,↓rY,↓sA,↓sB,↓sD,↓sE,↓tA,↓tD,↓tU,↓tV,↓t3,↓t4,↓wH,↓wI,↓yW,↓yX,↓yZ,↓y4,↓zO,↓zP,↓zX,↓zY,↓zR,↓zS,↓aAa,↓aBa,↓zU,↓zV,↓aDa,↓aEa,↓aIa,↓aOa,↓aKa,↓vO,↓vP,↓wB,↓rO,↓qF,↓pV,↓pP,↓qR,↓qN,↓pX,↓pK,↓pN,↓pG,↓qH,↓p8,↓qD,↓yR,↓qZ,↓qX,↓qV,↓qT,↓qB,↓qP,↓qL,↓qJ,↓pR,↓pZ,↓zM,↓q8,↓q6,↓rA,↓pT,↓zC,↓y6,↓y8,↓uR,↓uL,↓uH,↓uT,↓uN,↓uJ,↓uF,↓zA,↓tF,↓tG,↓s7,↓s8,↓sM,↓sN,↓xX,↓xY,↓v5,↓v6,↓wN,↓wO,↓zJ,↓zK,↓uP,↓sY,↓sZ,↓uY,↓uZ,↓pI,↓aMa,aFa,aGa,reduceCtorEq,false_implies,or_self,or_false,false_or,and_false,false_and,and_assoc,eXa,eWa,eVa,eUa,f7a,f6a,f5a,f4a,b8a,b7a,gAa,f9a,aTa,aSa,hVa,hUa,fWa,fVa,true_implies,implies_true,imp_self,forall_const,List.map_id',id,Kt.ret,true_and,and_true,Bool.not_true,Bool.not_false,Bool.and_true,Bool.true_and,Bool.and_false,Bool.false_and,$xs,*] $[$l]?)
local macro_rules | `(tactic| dsimp! only [$xs,*] $[$l:location]?) => `(tactic| try simp only [↓nKa,↓mRa,↓m5a,↓nWa,↓n1a,↓nOa,↓m3a,↓mQa,↓nHa,↓m6a,isiV,↓mOa,↓nMa,↓nLa,↓m4a,↓mVa,↓mUa,↓mTa,↓mPa,↓m7a,↓nTa,↓n0a,↓nEa,↓mSa,↓nGa,↓n4a,↓n3a,↓oDa,↓oCa,↓mMa,↓mNa,↓n9a,↓n7a,↓n8a,↓n6a,↓oAa,↓oBa,↓oXa,↓oMa,↓oNa,↓oQa,↓oRa,↓oPa,↓oOa,↓oJa,↓oZa,↓oEa,↓oLa,↓oTa,↓oHa,↓oUa,↓oVa,↓oKa,↓oIa,↓oSa,↓oFa,↓oGa,↓o2a,↓o1a,↓o7a,↓mWa,↓m1a,↓mYa,↓nVa,↓nDa,↓nNa,↓mZa,↓n2a,↓nUa,↓m0a,↓gNa,↓nSa,↓nRa,↓nAa,↓m8a,↓m9a,↓nBa,↓n5a,↓o_sm,↓hCa,↓hBa,↓gWa,↓gUa,↓gVa,↓gXa,↓nCa,↓nZa,↓nPa,↓mXa,↓nIa,↓nXa,↓oWa,↓gKa,↓g4a,↓hFa,↓nYa,↓nQa,↓o0a,↓gOa,↓gLa,↓hDa,↓gZa,↓g8a,↓gMa,↓gYa,↓hHa,↓g9a,↓hGa,↓hAa,↓m2a,↓nFa,↓nJa,↓oYa,↓gPa,↓g1a,↓g5a,o3a,o4a,↓g6a,↓o_bl,↓gSa,↓hEa,↓hJa,↓gQa,↓gEa,↓g3a,↓gDa,↓o_or,↓g7a,↓gRa,↓gIa,↓gHa,↓gGa,↓o_bi,↓o_ix,↓o_sl,↓hIa,↓g0a,↓gFa,↓g2a,↓gJa,↓gTa,plc,chg,sto,d8a,d9a,eAa,cOa,cQa,c6a,c2a,c3a,lsAt,List.map_cons,List.map_nil,List.cons_append,List.nil_append,List.length_cons,List.length_nil,List.getElem?_cons_zero,List.getElem?_cons_succ,List.set_cons_zero,List.set_cons_succ,List.replicate,Nat.reduceAdd,Nat.reduceSub,asg,asgs,ixK,slK,cmpK,tru,binK,biK,itemsK,wipeL,Sp.frz,true_and,and_true,List.isEmpty_nil,List.isEmpty_cons,Bool.not_true,Bool.not_false,List.set_set,cDa,eBa,cLa,cMa,cNa,cFa,cEa,cGa,dPa,dQa,dRa,cZa,dOa,d3a,d4a,d5a,dMa,dFa,c1a,c0a,cYa,dTa,c7a,dXa,c8a,dYa,bC,eCa,eEa,eGa,eDa,eFa,dGa,dIa,dHa,cCa,ev_max2,dNa,c5a,c4a,eHa,eIa,dKa,dLa,dCa,dDa,c9a,dAa,cUa,cPa,cSa,cVa,cWa,cTa,cRa,eKa,eOa,dWa,dUa,dSa,d0a,cHa,eJa,dJa,dEa,dBa,cXa,d1a,eMa,eNa,eLa,dVa,dZa,cIa,ev_at0,cJa,cKa,d2a,d6a,d7a,lS,lT,lU,↓hKa,pGa,hTa,map_some,gCa,$xs,*] $[$l]?)
def HandAt (n b : Nat) (cs : Cells) : Prop := ∃ (a s : Int) (t : Nat),cs[n]? = some (.seq [.int a,.int s,.int (t : Nat)]) /\ 0 <= a /\ 0 <= s /\ s < 2147483647 /\ t <= b
def HandZ (n : Nat) : SX := ⟨HandAt n,fun b b' cs l ⟨a,s,t,h1,h2,h3,h4,h5⟩ => ⟨a,s,t,h1,h2,h3,h4,Nat.le_trans h5 l⟩⟩
def gC (h : Unit) (many : Nat) : Prop := 0 < many /\ many < 2 ^ 190
def iM (h : Unit) (many : Nat) (r : Nat) : Prop := r < many
def b7 : Nat := 1
theorem nA {x : Int} {a b : Nat} (h : x.natAbs < 2 ^ a) (l : a <= b) : x.natAbs < 2 ^ b := Nat.lt_of_lt_of_le h (Nat.pow_le_pow_right (by decide) l)
theorem nB {x y : Int} {a b : Nat} (h : x.natAbs < 2 ^ a) (g : y.natAbs < 2 ^ b) (l : a <= 100000 /\ b <= 100000) : mulOk x y := f1a (nA h l.1) (nA g l.2)
def aU (n : Nat) (G : SF) : Prop := ∀ (law_hand_here : Unit) (law_many : Nat),gC law_hand_here law_many -> Im G (HandZ n) "_law_take" b7 [(Rp.ref n).enc law_hand_here,Rp.nat.enc law_many] Rp.nat (iM law_hand_here law_many)
def bP {n : Nat} {G : SF} (h : aU n G) : IF G (HandZ n) (encC (Rp.ref n) (encC Rp.nat encN)) Rp.nat := ⟨"_law_take",b7,fun t => gC t.1 t.2.1,fun t => iM t.1 t.2.1,fun t hp => h t.1 t.2.1 hp⟩
theorem bZ {n : Nat} {G : SF} (h : aU n G) : (bP h).pre = fun t => gC t.1 t.2.1 := rfl
theorem pB {n : Nat} {G : SF} (h : aU n G) : (bP h).name = "_law_take" := rfl
theorem bY {n : Nat} {G : SF} (h : aU n G) : (bP h).post = fun t => iM t.1 t.2.1 := rfl
theorem iG {n : Nat} {G : SF} (h : aU n G) : (bP h).cost = b7 := rfl
theorem l6a (n k m : Nat) (hm : gC () m) (b : Nat) (cs : Cells) (Q : D -> Cells -> Prop) (z : HandAt n b cs) (hb : b + 1 <= 2 ^ 250) (q : ∀ (r : Nat) cs',HandAt n (b + 1) cs' -> cs'.length = cs.length -> (∀ j,j ≠ n -> cs'[j]? = cs[j]?) -> r < m -> Q (.int (r : Int)) cs') : Gf tab (k + 1) "_law_take" [.ref n,.int (m : Int)] cs Q := by
  obtain ⟨a,s,t,hc,ha,hs,hs2,ht⟩ := z
  obtain ⟨hm,hm2⟩ := hm
  have hc : cs[n]? = some (.seq [.int a,.int s,.int (t : Int)]) := hc
  refine gf a3a rfl ?_
  have fin : ∀ (x : Int) (cs' : Cells) (a' s' : Int) (t' : Nat),cs'[n]? = some (.seq [.int a',.int s',.int (t' : Nat)]) -> 0 <= a' -> 0 <= s' -> s' < 2147483647 -> t' <= b + 1 -> cs'.length = cs.length -> (∀ j,j ≠ n -> cs'[j]? = cs[j]?) -> Q (.int (x % (m : Int))) cs' := fun x cs' a' s' t' e1 e2 e3 e4 e5 e6 e7 => by
    have g1 := Int.emod_nonneg x (b := (m : Int)) (by omega)
    have g2 := Int.emod_lt_of_pos x (b := (m : Int)) (by omega)
    have := q (x % (m : Int)).toNat cs' ⟨a',s',t',e1,e2,e3,e4,e5⟩ e6 e7 (by omega)
    rwa [Int.toNat_of_nonneg g1] at this
  have mz : (0 : Int) < (m : Int) := by omega
  have mb : (m : Int) < 2 ^ 200 := by
    have : ((m : Nat) : Int) < ((2 ^ 190 : Nat) : Int) := by exact_mod_cast hm2
    exact Int.lt_trans this (by decide)
  by_cases h0 : 0 < a
  · dsimp! only [gM,hc,gQ hc,b6 hc,gQ (b6 hc),decide_eq_true h0]
    exact ⟨mz,lJ mz mb,aL (fin _ _ _ _ t (b6 hc) (Int.ediv_nonneg ha (by omega)) hs hs2 (by omega) (by simp only [List.length_set]) (fun j hj => by simp only [List.getElem?_set_ne (Ne.symm hj)]))⟩
  · dsimp! only [gM,hc,gQ hc,b6 hc,gQ (b6 hc),decide_eq_false h0]
    have e1 : ((t : Int) + 1) = ((t + 1 : Nat) : Int) := rfl
    have tb : (((t : Int) + 1)).natAbs < 2 ^ 251 := by
      have : 2 ^ 250 < 2 ^ 251 := by decide
      omega
    have c31 : (31 : Int).natAbs < 2 ^ 5 := by decide
    generalize hX : s * 39373 + 12345 + 31 * ((t : Int) + 1) = X
    have h1 := Int.emod_nonneg X (b := 2147483647) (by decide)
    have h2 := Int.emod_lt_of_pos X (b := 2147483647) (by decide)
    have h3 := Int.emod_nonneg (X % 2147483647) (b := 40009) (by decide)
    have h4 := Int.emod_lt_of_pos (X % 2147483647) (b := 40009) (by decide)
    exact ⟨mulOk_of (by omega) (by omega),nB c31 tb (by decide),by decide,by decide,mulOk_of (by omega) (by omega),by decide,lJ (by decide) (by decide),mz,aL (fin _ _ a _ (t + 1) (b6 hc) ha h1 h2 (by omega) (by simp only [List.length_set]) (fun j hj => by simp only [List.getElem?_set_ne (Ne.symm hj)]))⟩
theorem eF (n k : Nat) : aU n (Gf tab (k + 1)) := fun h m hm b cs Q z hb q => l6a n k m hm b cs Q z hb fun r cs' h1 _ _ h2 => q r cs' h1 h2
def iH (script : List Int) (k : Nat) : Prop := k <= 63
def bW (G : SF) : Prop := ∀ (law_script : (List Int)) (law_k : Nat),iH law_script law_k -> Cr G "_law_hand" [(Rp.lst Rp.int).enc law_script,Rp.nat.enc law_k] HandZ
def iF {G : SF} (h : bW G) : CF G (encC (Rp.lst Rp.int) (encC Rp.nat encN)) HandZ := ⟨"_law_hand",fun t => iH t.1 t.2.1,fun t hp => h t.1 t.2.1 hp⟩
theorem cL {G : SF} (h : bW G) : (iF h).pre = fun t => iH t.1 t.2.1 := rfl
theorem o8 {G : SF} (h : bW G) : (iF h).name = "_law_hand" := rfl
theorem mB {cs : Cells} {Q : D -> Cells -> Prop} {c z : Int} {j : Nat} (hj : j <= 63) (q : ∀ cs',HandAt cs.length 0 cs' -> Q (.ref cs.length) cs') :
    ∀ w : Int,w = 10 ^ 240 -> (0 < w) /\ mulOk (z % w) (if decide (10 ^ Int.toNat 18 <= z) = true then 1 else 0) /\ mulOk (c % 2147483629 + 7919 * (j : Nat) + 11) 48271 /\ ∃ cs2,Sp.Kept cs (D.ref cs.length) (cs ++ [Cell.seq [D.int (z % w * (if decide (10 ^ Int.toNat 18 <= z) = true then 1 else 0)),D.int ((c % 2147483629 + 7919 * (j : Nat) + 11) * 48271 % 2147483647),D.int 0]]) cs2 /\ Q (D.ref cs.length) cs2 := by
  intro w hw
  have h1 := Int.emod_nonneg c (b := 2147483629) (by decide)
  have h2 := Int.emod_lt_of_pos c (b := 2147483629) (by decide)
  have h3 := Int.emod_nonneg ((c % 2147483629 + 7919 * (j : Nat) + 11) * 48271) (b := 2147483647) (by decide)
  have h4 := Int.emod_lt_of_pos ((c % 2147483629 + 7919 * (j : Nat) + 11) * 48271) (b := 2147483647) (by decide)
  have w0 : 0 < w := by rw [hw]; decide +kernel
  have a1 := Int.emod_nonneg z (b := w) (by omega)
  have a2 := Int.emod_lt_of_pos z w0
  have f1 : (z % w).natAbs < 2 ^ 800 := by
    have a3 : w <= ((2 ^ 800 : Nat) : Int) := by rw [hw]; decide +kernel
    generalize z % w = y at a1 a2 ⊢
    generalize (2 ^ 800 : Nat) = v at a3 ⊢
    omega
  refine ⟨w0,?_,mulOk_of (by omega) (by omega),aL (q _ ⟨_,_,0,List.getElem?_concat_length ..,?_,h3,h4,Nat.le_refl _⟩)⟩
  · refine nB (a := 800) (b := 2) f1 ?_ (by decide)
    split <;> decide
  · split
    · rw [Int.mul_one]; exact a1
    · rw [Int.mul_zero]; decide
theorem oB (k : Nat) : bW (Gf tab (k + 1)) := fun ns j hj cs Q q => by
  have q : ∀ cs',HandAt cs.length 0 cs' -> Q (.ref cs.length) cs' := fun cs' h => q _ cs' h
  have hj : j <= 63 := hj
  show Gf tab (k + 1) "_law_hand" [.lst (ns.map .int),.int (j : Int)] cs Q
  refine gf a0a rfl ?_
  have z16 := aP
  have e1 : (10 : Int) ^ Int.toNat 60 * 10 ^ Int.toNat 60 * 10 ^ Int.toNat 60 * 10 ^ Int.toNat 60 = 10 ^ 240 := by decide +kernel
  by_cases h0 : ((j : Nat) : Int) < (ns.length : Nat)
  · have hj' : j < ns.length := by omega
    have e : L2.atI (ns.map D.int) ((j : Nat) : Int) = some (.int ns[j]) := iR (by rw [List.getElem?_map,List.getElem?_eq_getElem hj']; rfl)
    dsimp! only [gL,List.length_map,decide_eq_true h0,e]
    obtain ⟨f1,f2,f3,f4⟩ := mB (c := ns[j]) (z := if ns[j] < 0 then -ns[j] else ns[j]) hj q _ e1
    exact ⟨by decide +kernel,by decide +kernel,by decide +kernel,by decide +kernel,by decide +kernel,by decide +kernel,by decide +kernel,by decide,mulOk_of (by omega) (by omega),f3,by decide,f1,by decide +kernel,f2,by omega,f4⟩
  · dsimp! only [gL,List.length_map,decide_eq_false h0]
    obtain ⟨f1,f2,f3,f4⟩ := mB (c := 0) (z := if (0 : Int) < 0 then -0 else 0) hj q _ e1
    exact ⟨by decide +kernel,by decide +kernel,by decide +kernel,by decide +kernel,by decide +kernel,by decide +kernel,by decide +kernel,by decide,mulOk_of (by omega) (by omega),f3,by decide,f1,by decide +kernel,f2,by omega,f4⟩
def iI {α : Type} (R : Rp α) (h : Unit) (some_ : List α) : Prop := 0 < some_.length /\ some_.length < 2 ^ 190
def iL {α : Type} (R : Rp α) (h : Unit) (some_ : List α) (r : α) : Prop := r ∈ some_
def dO : Nat := 1
def bE (n : Nat) (G : SF) : Prop := ∀ (αa : Type) (Ra : Rp αa) (law_hand_here : Unit) (law_some : (List αa)),iI Ra law_hand_here law_some -> Im G (HandZ n) "_law_pick" dO [(Rp.ref n).enc law_hand_here,(Rp.lst Ra).enc law_some] Ra (iL Ra law_hand_here law_some)
def cM {n : Nat} {G : SF} (h : bE n G) {αa : Type} (Ra : Rp αa) : IF G (HandZ n) (encC (Rp.ref n) (encC (Rp.lst Ra) encN)) Ra := ⟨"_law_pick",dO,fun t => iI Ra t.1 t.2.1,fun t => iL Ra t.1 t.2.1,fun t hp => h αa Ra t.1 t.2.1 hp⟩
theorem cO {n : Nat} {G : SF} (h : bE n G) {αa : Type} (Ra : Rp αa) : (cM h Ra).pre = fun t => iI Ra t.1 t.2.1 := rfl
theorem o9 {n : Nat} {G : SF} (h : bE n G) {αa : Type} (Ra : Rp αa) : (cM h Ra).name = "_law_pick" := rfl
theorem cN {n : Nat} {G : SF} (h : bE n G) {αa : Type} (Ra : Rp αa) : (cM h Ra).post = fun t => iL Ra t.1 t.2.1 := rfl
theorem kG {n : Nat} {G : SF} (h : bE n G) {αa : Type} (Ra : Rp αa) : (cM h Ra).cost = dO := rfl
theorem oC (n k : Nat) : bE n (Gf tab (k + 2)) := fun α R h xs hm b cs Q z hb q => by
  show Gf tab (k + 2) "_law_pick" [.ref n,.lst (xs.map R.enc)] cs Q
  refine gf a1a rfl ?_
  dsimp! only [iV,List.length_map]
  refine eF n k () xs.length hm b cs _ z hb fun r cs' z' hr => ?_
  have hr : r < xs.length := hr
  show ok (opt (L2.atI (xs.map R.enc) (r : Int))) _
  rw [iR (by rw [List.getElem?_map,List.getElem?_eq_getElem hr]; rfl)]
  exact ⟨trivial,aL (q _ cs' z' (List.getElem_mem hr))⟩
theorem iRa {n i x : Nat} (h : (List.range n)[i]? = some x) : i < n /\ x = i := by
  obtain ⟨h1,h2⟩ := List.getElem?_eq_some_iff.mp h
  rw [List.length_range] at h1
  rw [List.getElem_range] at h2
  exact ⟨h1,h2.symm⟩
def ReprOk (d : D) : Prop := ∃ p,d.py = some p /\ d.rm <= 16777216 /\ d.dep <= 60
theorem b3a {cs : Cells} {d : D} {p : PyData} (h : d.py = some p) : deref cs d = d := by
  cases d with
  | ref n => exact nomatch h
  | _ => rfl
def iJ {α : Type} (R : Rp α) (found due : α) : Prop := found = due /\ ReprOk (R.enc due)
def iB {α : Type} (R : Rp α) (found due : α) : Bool := true
def bM (G : SF) : Prop := ∀ (αa : Type) (Ra : Rp αa) (law_found : αa) (law_due : αa),iJ Ra law_found law_due -> Pu G "_law_same" [Ra.enc law_found,Ra.enc law_due] (Rp.bool.enc (iB Ra law_found law_due))
def bX {G : SF} (h : bM G) {αa : Type} (Ra : Rp αa) : PF G (encC Ra (encC Ra encN)) Rp.bool := ⟨"_law_same",fun t => iJ Ra t.1 t.2.1,fun t => iB Ra t.1 t.2.1,fun t hp => h αa Ra t.1 t.2.1 hp⟩
theorem cP {G : SF} (h : bM G) {αa : Type} (Ra : Rp αa) : (bX h Ra).pre = fun t => iJ Ra t.1 t.2.1 := rfl
theorem pA {G : SF} (h : bM G) {αa : Type} (Ra : Rp αa) : (bX h Ra).name = "_law_same" := rfl
theorem cQ {G : SF} (h : bM G) {αa : Type} (Ra : Rp αa) : (bX h Ra).val = fun t => iB Ra t.1 t.2.1 := rfl
theorem oD (k : Nat) : bM (Gf tab (k + 1)) := fun α R f d hp cs Q q => by
  obtain ⟨rfl,p,h1,h2,h3⟩ := hp
  show Gf tab (k + 1) "_law_same" [R.enc f,R.enc f] cs Q
  refine gf a2a rfl ?_
  generalize R.enc f = d at h1 h2 h3
  have hd : ∀ cs,deref cs d = d := fun cs => b3a h1
  dsimp! only [iW,hd,j3a h1,cAa,cBa]
  exact ⟨⟨h2,h3⟩,⟨h2,h3⟩,aL q⟩
theorem hV {B : Nat} : ∀ {xs : List D},(∀ x ∈ xs,D.rm x <= B) -> D.rms xs <= xs.length * (B + 2)
  | [],_ => Nat.zero_le _
  | x :: r,h => by
    have h1 := h x (List.mem_cons_self ..)
    have h2 := hV (xs := r) fun y hy => h y (List.mem_cons_of_mem _ hy)
    rw [D.rms,List.length_cons,Nat.succ_mul]
    omega
theorem lH {B : Nat} : ∀ {xs : List D},(∀ x ∈ xs,D.dep x <= B) -> D.deps xs <= B
  | [],_ => Nat.zero_le _
  | x :: r,h => by
    have h1 := h x (List.mem_cons_self ..)
    have h2 := lH (xs := r) fun y hy => h y (List.mem_cons_of_mem _ hy)
    rw [D.deps]
    omega
theorem nR : ∀ {xs : List D},(∀ x ∈ xs,∃ p,D.py x = some p) -> ∃ ps,D.pys xs = some ps
  | [],_ => ⟨[],rfl⟩
  | x :: r,h => by
    obtain ⟨p,h1⟩ := h x (List.mem_cons_self ..)
    obtain ⟨ps,h2⟩ := nR (xs := r) fun y hy => h y (List.mem_cons_of_mem _ hy)
    exact ⟨p :: ps,by rw [D.pys,h1,h2]⟩
theorem j2a {xs : List D} (hl : xs.length <= 4096) (h : ∀ x ∈ xs,(∃ p,D.py x = some p) /\ D.rm x <= 2000 /\ D.dep x <= 50) : ReprOk (.tup xs) := by
  obtain ⟨ps,hp⟩ := nR fun x hx => (h x hx).1
  have h1 := hV fun x hx => (h x hx).2.1
  have h2 := lH fun x hx => (h x hx).2.2
  refine ⟨.tuple ps,by rw [D.py,hp]; rfl,?_,?_⟩
  · rw [D.rm]
    have := Nat.mul_le_mul_right (2000 + 2) hl
    omega
  · rw [D.dep]
    omega
theorem j1a {f : List (Option Nat)} (hl : f.length <= 4096) (h : ∀ r x : Nat,f[r]? = some (some x) -> x <= 1) : ReprOk ((Rp.tup Rp.nat.opt).enc f) := by
  refine j2a (by rw [List.length_map]; exact hl) fun x hx => ?_
  obtain ⟨o,ho,rfl⟩ := List.mem_map.mp hx
  cases o with
  | none => exact ⟨⟨_,rfl⟩,by show 8 <= 2000; decide,Nat.zero_le _⟩
  | some v =>
    obtain ⟨i,hi⟩ := List.mem_iff_getElem?.mp ho
    have := h i v hi
    refine ⟨⟨_,rfl⟩,?_,Nat.zero_le _⟩
    have : v = 0 \/ v = 1 := by omega
    rcases this with rfl | rfl <;> decide
def FnOk (f : List (Option Nat)) : Prop := f.length <= 64 /\ ∀ r x : Nat,f[r]? = some (some x) -> x <= 1
theorem mGa {n : Nat} (hn : n <= 6) : 2 ^ n <= 64 := Nat.pow_le_pow_right (n := 2) (by decide) hn
def isVal : D -> Bool
  | .non => true
  | .int i => decide (0 <= i) && decide (i <= 1)
  | _ => false
def lenFn (n : Nat) : Bool := ([1,2,4,8,16,32,64] : List Int).any fun i => i == (n : Int)
theorem bNa : tab.con ("NO" : Str) = some (.int 0) := rfl
theorem bPa : tab.con ("YES" : Str) = some (.int 1) := rfl
theorem bMa : tab.con ("MOST_SWITCHES" : Str) = some (.int 6) := rfl
theorem eqv_ints' (i j : Int) : PyData.eqv (.int i) (.int j) = (i == j) := by
  simp [PyData.eqv]
theorem m7 (n : Nat) : memV (.int (n : Nat)) (.lst [.int 1,.int 2,.int 4,.int 8,.int 16,.int 32,.int 64]) = some (min (D.deps [.int 1,.int 2,.int 4,.int 8,.int 16,.int 32,.int 64]) (D.dep (.int (n : Nat))) <= 60,([1,2,4,8,16,32,64] : List Int).any fun i => i == (n : Int)) := by
  show some (_,([PyData.int 1,.int 2,.int 4,.int 8,.int 16,.int 32,.int 64]).any fun q => PyData.eqv q (.int (n : Nat))) = _
  simp only [List.any_cons,List.any_nil,eqv_ints']
def isFn : D -> Bool
  | .tup xs => lenFn xs.length && xs.all isVal
  | _ => false
def LenOk : D -> Prop
  | .tup xs => xs.length <= 4096
  | .ptup _ => False
  | .vtup _ => False
  | _ => True
theorem iNa {xs : List D} (h : D.pls xs = true) : ∀ x ∈ xs,x.pl = true := by
  induction xs with
  | nil => exact fun x hx => nomatch hx
  | cons y r ih =>
    unfold D.pls at h
    rw [Bool.and_eq_true] at h
    intro x hx
    rcases List.mem_cons.mp hx with rfl | hx
    · exact h.1
    · exact ih h.2 x hx
def isWh : D -> Bool
  | .int _ => true
  | _ => false
def zG (thing : Any) : Prop := True
def oU (thing : Any) : Bool := isWh thing.d
def o7 (G : SF) : Prop := ∀ (thing : Any),zG thing -> Pu G "is_whole" [Rp.any.enc thing] (Rp.bool.enc (oU thing))
theorem oA (k : Nat) : o7 (Gf tab (k + 1)) := fun thing hp0 cs Q q0 => by
  obtain ⟨d,pl⟩ := thing
  have q : Q (.bl (isWh d)) cs := q0
  clear q0
  show Gf tab (k + 1) "is_whole" [d] cs Q
  refine gf aYa rfl ?_
  cases d
  case ref n => cases pl
  case dctT x => cases pl
  all_goals (dsimp! only [iU]; exact aL q)
def zF (thing : Any) : Prop := True
def mHa (thing : Any) : Bool := isVal thing.d
def o6 (G : SF) : Prop := ∀ (thing : Any),zF thing -> Pu G "is_value" [Rp.any.enc thing] (Rp.bool.enc (mHa thing))
theorem lIa (k : Nat) : o6 (Gf tab (k + 2)) := fun thing hp0 cs Q q0 => by
  obtain ⟨d,pl⟩ := thing
  have q : Q (.bl (isVal d)) cs := q0
  clear q0
  show Gf tab (k + 2) "is_value" [d] cs Q
  refine gf aXa rfl ?_
  cases d
  case ref n => cases pl
  case dctT x => cases pl
  case non =>
    dsimp! only [dD]
    exact aL q
  case int i =>
    dsimp! only [dD]
    refine oA k ⟨.int i,rfl⟩ trivial cs _ ?_
    have et : truV (deref cs (Rp.bool.enc (oU ⟨.int i,rfl⟩))) = yes true := rfl
    dsimp! only [et,bNa,bPa]
    have q : Q (.bl (decide (0 <= i) && decide (i <= 1))) cs := q
    by_cases h0 : 0 <= i
    · rw [decide_eq_true h0,Bool.true_and] at q
      dsimp! only [decide_eq_true h0]
      exact aL q
    · rw [decide_eq_false h0,Bool.false_and] at q
      dsimp! only [decide_eq_false h0]
      exact aL q
  all_goals
    dsimp! only [dD]
    refine oA k ⟨_,pl⟩ trivial cs _ ?_
    exact ⟨trivial,aL q⟩
def zE (thing : Any) : Prop := LenOk thing.d
def kC (thing : Any) : Bool := isFn thing.d
def o5 (G : SF) : Prop := ∀ (thing : Any),zE thing -> Pu G "is_function" [Rp.any.enc thing] (Rp.bool.enc (kC thing))
theorem lHa (k : Nat) : o5 (Gf tab (k + 3)) := fun thing hp0 cs Q q0 => by
  obtain ⟨d,pl⟩ := thing
  have hp : LenOk d := hp0
  have q : Q (.bl (isFn d)) cs := q0
  clear q0 hp0
  show Gf tab (k + 3) "is_function" [d] cs Q
  refine gf aWa rfl ?_
  cases d
  case ref n => cases pl
  case dctT x => cases pl
  case tup xs =>
    have z16 := aP
    have hl : xs.length <= 4096 := hp
    dsimp! only [gK,bMa]
    refine ⟨⟨by decide,by decide⟩,⟨rfl,by rw [z16]; decide⟩,iY (aA (bG tab (k + 2)) _) (fun d => match d with
      | .int i => .int (1 * 2 ^ i.toNat)
      | d => d) trivial (fun x hx => ?_) ?_⟩
    · obtain ⟨i,hi,rfl⟩ := List.mem_map.mp hx
      have hi := List.mem_range.mp hi
      have hi : i < 7 := hi
      dsimp! only []
      exact ⟨by omega,by omega,by decide⟩
    · have em : (rangeD 0 (Int.toNat (6 + 1))).map (fun d => match d with
        | .int i => Sp.D.int (1 * 2 ^ i.toNat)
        | d => d) = [.int 1,.int 2,.int 4,.int 8,.int 16,.int 32,.int 64] := rfl
      rw [em]
      have q : Q (.bl (lenFn xs.length && xs.all isVal)) cs := q
      cases hb : lenFn xs.length with
      | false =>
        rw [hb,Bool.false_and] at q
        have hb : (([1,2,4,8,16,32,64] : List Int).any fun i => i == (xs.length : Int)) = false := hb
        rw [m7,hb]
        exact ⟨by simp [D.dep,D.deps],aL q⟩
      | true =>
        rw [hb,Bool.true_and] at q
        have hb : (([1,2,4,8,16,32,64] : List Int).any fun i => i == (xs.length : Int)) = true := hb
        rw [m7,hb]
        refine ⟨by simp [D.dep,D.deps],⟨rfl,by omega⟩,iY (aA (bG tab (k + 2)) _) (fun d => .bl (isVal d)) trivial (fun x hx => ?_) ?_⟩
        · dsimp! only []
          exact lIa k ⟨x,iNa pl x hx⟩ trivial cs _ ⟨rfl,rfl⟩
        · have ea : biV Bi.all [.lst (xs.map fun d => Sp.D.bl (isVal d))] = yes (.bl ((xs.map isVal).all id)) := by
            show opt ((Sp.D.bools (xs.map fun d => Sp.D.bl (isVal d))).map fun ns => Sp.D.bl (ns.all id)) = _
            rw [show (xs.map fun d => Sp.D.bl (isVal d)) = (xs.map isVal).map .bl by rw [List.map_map]; rfl,iS]
            rfl
          dsimp! only [ea]
          rw [List.all_map]
          exact aL q
  case ptup xs => exact hp.elim
  case vtup xs => exact hp.elim
  all_goals (dsimp! only [gK]; exact aL q)
def sg : Option Nat -> Nat
  | none => 45
  | some 0 => 48
  | some _ => 49
def rd (c : Nat) : Option Nat := if c = 48 then some 0 else if c = 49 then some 1 else none
def wr (f : List (Option Nat)) : Str := _root_.SX.S (f.map sg)
def Vl (v : Option Nat) : Prop := v = none \/ v = some 0 \/ v = some 1
theorem mJa {f : List (Option Nat)} (h : ∀ r x : Nat,f[r]? = some (some x) -> x <= 1) : ∀ v ∈ f,Vl v := fun v hv => by
  obtain ⟨i,hi⟩ := List.mem_iff_getElem?.mp hv
  match v,hi with
  | none,_ => exact .inl rfl
  | some x,hi =>
    have := h i x hi
    have : x = 0 \/ x = 1 := by omega
    rcases this with rfl | rfl
    · exact .inr (.inl rfl)
    · exact .inr (.inr rfl)
theorem i2a {v : Option Nat} (h : Vl v) : rd (sg v) = v := by
  rcases h with rfl | rfl | rfl <;> rfl
theorem mI : ∀ l : List Nat,TL.joinL [] (l.map fun c => [c]) = l
  | [] => rfl
  | [c] => rfl
  | c :: d :: r => by
    have ih := mI (d :: r)
    rw [List.map_cons] at ih
    rw [List.map_cons,List.map_cons,TL.joinL,ih]
    rfl
theorem e3a (f : List (Option Nat)) : Txt.join "" (f.map fun v => _root_.SX.S [sg v]) = wr f := by
  have := _root_.SX.join_S [] ((f.map sg).map fun c => [c])
  rw [mI] at this
  rw [List.map_map,List.map_map] at this
  exact this
theorem pFa (f : List (Option Nat)) (v : Option Nat) : wr f ++ _root_.SX.S [sg v] = wr (f ++ [v]) := by
  unfold wr
  rw [_root_.SX.S_cat,List.map_append]
  rfl
theorem b1a {v : Option Nat} (h : Vl v) : (ddF [((1 : Int),("1" : Str)),((0 : Int),("0" : Str))] v).getD "-" = _root_.SX.S [sg v] := by
  rcases h with rfl | rfl | rfl <;> rfl
def gE (f : List (Option Nat)) : Prop := f.length <= 64 /\ ∀ v ∈ f,Vl v
def eK (f : List (Option Nat)) : Str := wr f
structure dB where
  f : (List (Option Nat))
  value : (Option Nat)
def i4 : Fr dB := ⟨2,fun i => false,fun γ i => match i with
  | 0 => .val ((Rp.tup (Rp.opt Rp.nat)).enc γ.f)
  | 1 => .val ((Rp.opt Rp.nat).enc γ.value)
  | _ => .no⟩
def jF : Ln (i4) 0 (Rp.tup (Rp.opt Rp.nat)) := ⟨fun γ => γ.f,fun a γ => { γ with f := a },fun _ => rfl,fun _ _ => rfl,fun _ _=>fun|0,h=>absurd rfl h|1,_|_+2,_=>rfl,rfl,(by decide : 0 < 2)⟩
theorem fEa (γ : dB) : jF.get γ = γ.f := rfl
theorem fFa (γ : dB) a : jF.set a γ = { γ with f := a } := rfl
def d9 : Ln (i4) 1 (Rp.opt Rp.nat) := ⟨fun γ => γ.value,fun a γ => { γ with value := a },fun _ => rfl,fun _ _ => rfl,fun _ _=>fun|1,h=>absurd rfl h|0,_|_+2,_=>rfl,rfl,(by decide : 1 < 2)⟩
theorem fGa (γ : dB) : d9.get γ = γ.value := rfl
theorem fHa (γ : dB) a : d9.set a γ = { γ with value := a } := rfl
def bO (G : SF) : Prop := ∀ (f : (List (Option Nat))),gE f -> Pu G "show_function" [(Rp.tup (Rp.opt Rp.nat)).enc f] (Rp.str.enc (eK f))
def cY {G : SF} (h : bO G) : PF G (encC (Rp.tup (Rp.opt Rp.nat)) encN) Rp.str := ⟨"show_function",fun t => gE t.1,fun t => eK t.1,fun t hp => h t.1 hp⟩
theorem cZ {G : SF} (h : bO G) : (cY h).pre = fun t => gE t.1 := rfl
theorem pE {G : SF} (h : bO G) : (cY h).name = "show_function" := rfl
theorem dA {G : SF} (h : bO G) : (cY h).val = fun t => eK t.1 := rfl
def gJ {k : Nat} (Z : SX) : PS (TX.of tab k) Z i4 [] [(0,false)] [] Rp.str :=
  (PS.last (PC.ret (PE.i (PE.ap1 (Op1.joinL "") (PE.o (PE.comp [1] (id rfl) (SR.tup (PE.o (PE.var jF (id rfl)))) (TG.nm d9) (PE.ite (PE.o (PE.ap1 (Op1.isN Rp.nat) (PE.o (PE.var d9 (id rfl))))) (PE.str "-") (PE.ap1 Op1.strI (PE.o (PE.up (PE.get (PE.var d9 (id rfl)))))))))))))
theorem hLa {v : Option Nat} (h : Vl v) : (bif v.isNone then ("-" : Str) else Str.ofString (toString ((v.getD default : Nat) : Int))) = _root_.SX.S [sg v] := by
  rcases h with rfl | rfl | rfl <;> rfl
theorem mKa {v : Option Nat} (h : Vl v) (hs : v.isNone = false) : v.isSome = true /\ ((v.getD default : Nat) : Int).natAbs.log2 < 1920 := by
  rcases h with rfl | rfl | rfl
  · cases hs
  · exact ⟨rfl,by decide⟩
  · exact ⟨rfl,by decide⟩
theorem hMa {f : List (Option Nat)} (h : ∀ v ∈ f,Vl v) : f.map (fun v => bif v.isNone then ("-" : Str) else Str.ofString (toString ((v.getD default : Nat) : Int))) = f.map fun v => _root_.SX.S [sg v] := List.map_congr_left fun v hv => hLa (h v hv)
theorem fLa (f : List (Option Nat)) : ((f.map fun v => _root_.SX.S [sg v]).map fun x => x.length).sum = f.length := by
  induction f with
  | nil => rfl
  | cons v r ih =>
    rw [List.map_cons,List.map_cons,List.sum_cons,ih,List.length_cons]
    show 1 + _ = _
    omega
theorem o8a {κ : Nat} (f : (List (Option Nat))) (hp : gE f) (Z : SX) : (gJ (k := κ)  Z).wp ⟨f,none⟩ (.ret fun r => r = eK f) := by
  simp! only [gJ,fEa,fFa,fGa,fHa]
  obtain ⟨h1,h2⟩ := hp
  have z16 := aP
  rw [hMa h2,fLa,List.length_map]
  exact ⟨by omega,fun v hv hs => mKa (h2 v hv) hs,by show f.length + f.length * 0 <= _; omega,e3a f⟩
theorem oG (κ : Nat) : bO (Gf tab (κ + 1)) := fun f hp => Pu.fn (T := tab) (k := (κ + 0)) (γ := ⟨f,none⟩) (ds := [(Rp.tup (Rp.opt Rp.nat)).enc f]) a6a (fun Z => gJ (k := (κ + 0))  Z) (fun _ => rfl) (fun _ => decide_eq_true (by (try simp only [fW,fN,e9,eV,eS,fF,fD,eW,eQ,eR,eO,fA,eY,e8,fX,fJ,fI,fH,fG,eZ,fE,fC,fB,eT,eX,gG,fL,fK,fM,eU,gB,fY,fZ,fU,fR,fP,fV,fS,fQ,fO,gA,fT,eP,gJ,Nat.zero_add,Nat.add_zero,Nat.mul_zero,Nat.reduceAdd,Nat.reduceMul,BIG]); decide)) rfl (Sp.fits_start rfl (⟨rfl,trivial⟩) (⟨(fun _ e => nomatch e),(fun _ e => nomatch e),trivial⟩)) (fun Z => o8a  f hp Z)
def zD (thing : Str) : Prop := True
def oT (thing : Str) : Str := thing
def o4 (G : SF) : Prop := ∀ (thing : Str),zD thing -> Pu G "checked_text" [Rp.str.enc thing] (Rp.str.enc (oT thing))
theorem lGa (k : Nat) : o4 (Gf tab (k + 1)) := fun x hp cs Q q => by
  show Gf tab (k + 1) "checked_text" [.str x] cs Q
  refine gf aVa rfl ?_
  dsimp! only [iT]
  exact aL q
def iK (text : Str) : Prop := ∃ f,text = wr f /\ (∀ v ∈ f,Vl v) /\ lenFn f.length = true
def iC (text : Str) : List (Option Nat) := text.cps.toList.map rd
theorem n3 {f : List (Option Nat)} (h : ∀ v ∈ f,Vl v) : iC (wr f) = f := by
  show ((f.map sg)).map rd = f
  rw [List.map_map]
  refine (List.map_congr_left fun v hv => ?_).trans (List.map_id f)
  exact i2a (h v hv)
def rdD : Sp.D -> Sp.D
  | .str z => Rp.nat.opt.enc (rd (z.cps.toList.headD 0))
  | _ => .non
theorem fJa {n : Nat} (h : lenFn n = true) : n <= 64 := by
  obtain ⟨i,hi,e⟩ := List.any_eq_true.mp h
  have e := eq_of_beq e
  simp only [List.mem_cons,List.not_mem_nil,or_false] at hi
  omega
theorem jQ : ∀ f : List (Option Nat),(Sp.D.tup (f.map Rp.nat.opt.enc)).pl = true
  | [] => rfl
  | none :: r => jQ r
  | some _ :: r => jQ r
theorem bOa : tab.con ("VALUES" : Str) = some (.dct [(.inr "0",.int 0),(.inr "1",.int 1),(.inr "-",.non)]) := rfl
def bN (G : SF) : Prop := ∀ (text : Str),iK text -> Pu G "read_function" [Rp.str.enc text] ((Rp.tup (Rp.opt Rp.nat)).enc (iC text))
def cV {G : SF} (h : bN G) : PF G (encC Rp.str encN) (Rp.tup (Rp.opt Rp.nat)) := ⟨"read_function",fun t => iK t.1,fun t => iC t.1,fun t hp => h t.1 hp⟩
theorem cW {G : SF} (h : bN G) : (cV h).pre = fun t => iK t.1 := rfl
theorem pD {G : SF} (h : bN G) : (cV h).name = "read_function" := rfl
theorem cX {G : SF} (h : bN G) : (cV h).val = fun t => iC t.1 := rfl
theorem oF (k : Nat) : bN (Gf tab (k + 4)) := fun x hp cs Q q => by
  obtain ⟨f,rfl,hv,hl⟩ := hp
  rw [n3 hv] at q
  show Gf tab (k + 4) "read_function" [.str (wr f)] cs Q
  refine gf a5a rfl ?_
  dsimp! only [iX]
  refine lGa (k + 2) (wr f) trivial cs _ ?_
  have es : Rp.str.enc (oT (wr f)) = .str (wr f) := rfl
  dsimp! only [es]
  have hln := fJa hl
  have z16 := aP
  have ec : (wr f).cps.toList = f.map sg := rfl
  rw [ec]
  refine ⟨⟨rfl,by rw [List.length_map,List.length_map]; omega⟩,iY (aA (bG tab (k + 3)) _) rdD trivial (fun x hx => ?_) ?_⟩
  · obtain ⟨c,hc,rfl⟩ := List.mem_map.mp hx
    obtain ⟨v,hm,rfl⟩ := List.mem_map.mp hc
    dsimp! only [bOa]
    rcases hv v hm with rfl | rfl | rfl <;> exact ⟨trivial,rfl⟩
  · have ed : ((f.map sg).map fun c => Sp.D.str ⟨#[c]⟩).map rdD = f.map Rp.nat.opt.enc := by
      rw [List.map_map,List.map_map]
      refine List.map_congr_left fun v hm => ?_
      rcases hv v hm with rfl | rfl | rfl <;> rfl
    rw [ed]
    have pl : (Sp.D.tup (f.map Rp.nat.opt.enc)).pl = true := jQ f
    refine lHa k ⟨_,pl⟩ (show (f.map Rp.nat.opt.enc).length <= 4096 by rw [List.length_map]; omega) cs _ ?_
    have ef : kC ⟨Sp.D.tup (f.map Rp.nat.opt.enc),pl⟩ = true := by
      show (lenFn (f.map Rp.nat.opt.enc).length && (f.map Rp.nat.opt.enc).all isVal) = true
      rw [List.length_map,hl,Bool.true_and,List.all_map,List.all_eq_true]
      intro v hm
      rcases hv v hm with rfl | rfl | rfl <;> rfl
    have et : truV (deref cs (Rp.bool.enc (kC ⟨Sp.D.tup (f.map Rp.nat.opt.enc),pl⟩))) = yes true := by rw [ef]; rfl
    dsimp! only [et]
    exact aL q
def gD (h : Unit) (many : Nat) : Prop := many <= 64
def gF (h : Unit) (many : Nat) (r : List (Option Nat)) : Prop := r.length = many /\ FnOk r
def b8 : Nat := 10000
structure aZ where
  law_hand_here : Unit
  law_many : Nat
  law_few : Nat
  law_k : Nat
def dL (n : Nat) : Fr aZ := ⟨4,fun i => false,fun γ i => match i with
  | 0 => .val ((Rp.ref n).enc γ.law_hand_here)
  | 1 => .val (Rp.nat.enc γ.law_many)
  | 2 => .val (Rp.nat.enc γ.law_few)
  | 3 => .val (Rp.nat.enc γ.law_k)
  | _ => .no⟩
def g7 {n : Nat} : Ln (dL n) 0 (Rp.ref n) := ⟨fun γ => γ.law_hand_here,fun a γ => { γ with law_hand_here := a },fun _ => rfl,fun _ _ => rfl,fun _ _=>fun|0,h=>absurd rfl h|1,_|2,_|3,_|_+4,_=>rfl,rfl,(by decide : 0 < 4)⟩
theorem e8a {n : Nat} (γ : aZ) : (@g7 n).get γ = γ.law_hand_here := rfl
theorem e9a {n : Nat} (γ : aZ) a : (@g7 n).set a γ = { γ with law_hand_here := a } := rfl
def jE {n : Nat} : Ln (dL n) 1 Rp.nat := ⟨fun γ => γ.law_many,fun a γ => { γ with law_many := a },fun _ => rfl,fun _ _ => rfl,fun _ _=>fun|1,h=>absurd rfl h|0,_|2,_|3,_|_+4,_=>rfl,rfl,(by decide : 1 < 4)⟩
theorem fCa {n : Nat} (γ : aZ) : (@jE n).get γ = γ.law_many := rfl
theorem fDa {n : Nat} (γ : aZ) a : (@jE n).set a γ = { γ with law_many := a } := rfl
def gZ {n : Nat} : Ln (dL n) 2 Rp.nat := ⟨fun γ => γ.law_few,fun a γ => { γ with law_few := a },fun _ => rfl,fun _ _ => rfl,fun _ _=>fun|2,h=>absurd rfl h|0,_|1,_|3,_|_+4,_=>rfl,rfl,(by decide : 2 < 4)⟩
theorem e6a {n : Nat} (γ : aZ) : (@gZ n).get γ = γ.law_few := rfl
theorem e7a {n : Nat} (γ : aZ) a : (@gZ n).set a γ = { γ with law_few := a } := rfl
def jD {n : Nat} : Ln (dL n) 3 Rp.nat := ⟨fun γ => γ.law_k,fun a γ => { γ with law_k := a },fun _ => rfl,fun _ _ => rfl,fun _ _=>fun|3,h=>absurd rfl h|0,_|1,_|2,_|_+4,_=>rfl,rfl,(by decide : 3 < 4)⟩
theorem fAa {n : Nat} (γ : aZ) : (@jD n).get γ = γ.law_k := rfl
theorem fBa {n : Nat} (γ : aZ) a : (@jD n).set a γ = { γ with law_k := a } := rfl
def bF (n : Nat) (G : SF) : Prop := ∀ (law_hand_here : Unit) (law_many : Nat),gD law_hand_here law_many -> Im G (HandZ n) "_law_values" b8 [(Rp.ref n).enc law_hand_here,Rp.nat.enc law_many] (Rp.tup (Rp.opt Rp.nat)) (gF law_hand_here law_many)
def cR {n : Nat} {G : SF} (h : bF n G) : IF G (HandZ n) (encC (Rp.ref n) (encC Rp.nat encN)) (Rp.tup (Rp.opt Rp.nat)) := ⟨"_law_values",b8,fun t => gD t.1 t.2.1,fun t => gF t.1 t.2.1,fun t hp => h t.1 t.2.1 hp⟩
theorem cU {n : Nat} {G : SF} (h : bF n G) : (cR h).pre = fun t => gD t.1 t.2.1 := rfl
theorem pC {n : Nat} {G : SF} (h : bF n G) : (cR h).name = "_law_values" := rfl
theorem cS {n : Nat} {G : SF} (h : bF n G) : (cR h).post = fun t => gF t.1 t.2.1 := rfl
theorem kH {n : Nat} {G : SF} (h : bF n G) : (cR h).cost = b8 := rfl
def gI {k n : Nat} (bJ : aU n (Gf tab k)) : PS (TX.of tab k) (HandZ n) (dL n) [] [(0,false),(1,false)] [] (Rp.tup (Rp.opt Rp.nat)) :=
  (PS.cons (PC.set (TG.nm gZ) (IE.icall (bP bJ) (IEs.cons (PE.i (PE.var g7 (id rfl))) (IEs.cons (PE.i (PE.nat 2)) IEs.nil)))) (PS.last (PC.ret (IE.ap1 (Op1.tupL (Rp.opt Rp.nat)) (IE.o (IE.comp [3] (id rfl) (SR.i (SR.rng (PE.var jE (id rfl)))) (TG.nm jD) (IE.ap2 (Op2.ixL (Rp.opt Rp.nat)) (OE.i (PE.o (PE.lst (R := (Rp.opt Rp.nat)) (PEl.cons (PE.someO (PE.nat 1)) (PEl.cons (PE.someO (PE.nat 0)) (PEl.cons (PE.someO (PE.nat 1)) (PEl.cons (PE.someO (PE.nat 0)) (PEl.cons (PE.noneO Rp.nat) PEl.nil))))) (id rfl)))) (IE.icall (bP bJ) (IEs.cons (PE.i (PE.var g7 (id rfl))) (IEs.cons (PE.i (PE.ap2 Op2.nadd (PE.o (PE.nat 4)) (PE.var gZ (id rfl)))) IEs.nil))))))))))
theorem o6a {κ n : Nat} (bJ : aU n (Gf tab κ)) (law_hand_here : Unit) (law_many : Nat) (hp : gD law_hand_here law_many) : (gI (k := κ) (n := n) bJ).wp ⟨law_hand_here,law_many,0,0⟩ (.ret (gF law_hand_here law_many)) := by
  simp! only [gI,e8a,e9a,fCa,fDa,e6a,e7a,fAa,fBa,bZ,bY]
  have hm : law_many <= 64 := hp
  refine ⟨⟨by decide,by decide⟩,fun r hr => ⟨Nat.lt_of_le_of_lt hm (by decide),by rw [List.length_range]; omega,bKa (fun y => ∀ x,y = some x -> x <= 1) (fun a _ k hk => ⟨⟨by omega,Nat.lt_of_lt_of_le (show 4 + r < 6 by have : r < 2 := hr; omega) (by decide)⟩,fun s hs => ?_⟩) fun ys hl hy => ?_⟩⟩
  · have hr : r < 2 := hr
    have hs : s < 4 + r := hs
    have h5 : s < 5 := by omega
    refine ⟨h5,hk _ fun x e => ?_⟩
    match s,h5,e with
    | 0,_,e => cases e; decide
    | 1,_,e => cases e; decide
    | 2,_,e => cases e; decide
    | 3,_,e => cases e; decide
    | 4,_,e => exact nomatch e
  · rw [List.length_range] at hl
    exact ⟨hl,by omega,fun r x e => hy _ (List.mem_of_getElem? e) x rfl⟩
theorem oE (n κ : Nat) : bF n (Gf tab (κ + 2)) := fun law_hand_here law_many hp => Im.le (Im.fn (T := tab) (k := (κ + 1)) (γ := ⟨law_hand_here,law_many,0,0⟩) (ds := [(Rp.ref n).enc law_hand_here,Rp.nat.enc law_many]) a4a (gI (k := (κ + 1)) (n := n) (eF n (κ + 0))) rfl rfl (Sp.fits_start rfl (⟨rfl,rfl,trivial⟩) (⟨(fun _ e => nomatch e),(fun _ e => nomatch e),(fun _ e => nomatch e),(fun _ e => nomatch e),trivial⟩)) (o6a (eF n (κ + 0)) law_hand_here law_many hp)) (decide_eq_true (by (try simp only [fW,fN,e9,eV,eS,fF,fD,eW,eQ,eR,eO,fA,eY,e8,fX,fJ,fI,fH,fG,eZ,fE,fC,fB,eT,eX,gG,fL,fK,fM,eU,gB,fY,fZ,fU,fR,fP,fV,fS,fQ,fO,gA,fT,eP,gI,iG,b7,b8,Nat.zero_add,Nat.add_zero,Nat.mul_zero,Nat.reduceAdd,Nat.reduceMul,BIG]); decide))
theorem fKa {n : Nat} (h : n <= 6) : lenFn (2 ^ n) = true := by
  have : n = 0 \/ n = 1 \/ n = 2 \/ n = 3 \/ n = 4 \/ n = 5 \/ n = 6 := by omega
  rcases this with rfl | rfl | rfl | rfl | rfl | rfl | rfl <;> rfl
theorem mIa {x : Nat} (h : Vl (some x)) : x <= 1 := by
  rcases h with h | h | h <;> cases h <;> decide
theorem j4a (f : List (Option Nat)) (h1 : f.length <= 64) (h2 : ∀ v ∈ f,Vl v) : ReprOk (.str (wr f)) := by
  refine ⟨_,rfl,?_,Nat.zero_le _⟩
  have hl : (wr f).length = f.length := by
    unfold wr
    rw [_root_.SX.S_len,List.length_map]
  have := PySem.StrLaws.reprText_len (wr f) fun c hc => by
    have hc : c ∈ f.map sg := hc
    obtain ⟨v,hv,rfl⟩ := List.mem_map.mp hc
    rcases h2 v hv with rfl | rfl | rfl <;> decide
  show (reprText (wr f)).length <= _
  omega
def kI (script : List Int) : Prop := script.length <= 63
def zH (script : List Int) (r : Bool) : Prop := r = true
structure aN where
  law_script : (List Int)
  law_k : Nat
  law_hand_here : Unit
  law_f : (List (Option Nat))
  law_one : (List (Option Nat))
  law_text : Str
  law_value : (Option Nat)
def aW (n : Nat) : Fr aN := ⟨7,fun i => false,fun γ i => match i with
  | 0 => .val ((Rp.lst Rp.int).enc γ.law_script)
  | 1 => .val (Rp.nat.enc γ.law_k)
  | 2 => .val ((Rp.ref n).enc γ.law_hand_here)
  | 3 => .val ((Rp.tup (Rp.opt Rp.nat)).enc γ.law_f)
  | 4 => .val ((Rp.tup (Rp.opt Rp.nat)).enc γ.law_one)
  | 5 => .val (Rp.str.enc γ.law_text)
  | 6 => .val ((Rp.opt Rp.nat).enc γ.law_value)
  | _ => .no⟩
def gX {n : Nat} : Ln (aW n) 0 (Rp.lst Rp.int) := ⟨fun γ => γ.law_script,fun a γ => { γ with law_script := a },fun _ => rfl,fun _ _ => rfl,fun _ _=>fun|0,h=>absurd rfl h|1,_|2,_|3,_|4,_|5,_|6,_|_+7,_=>rfl,rfl,(by decide : 0 < 7)⟩
theorem d3 {n : Nat} (γ : aN) : (@gX n).get γ = γ.law_script := rfl
theorem d4 {n : Nat} (γ : aN) a : (@gX n).set a γ = { γ with law_script := a } := rfl
def gW {n : Nat} : Ln (aW n) 1 Rp.nat := ⟨fun γ => γ.law_k,fun a γ => { γ with law_k := a },fun _ => rfl,fun _ _ => rfl,fun _ _=>fun|1,h=>absurd rfl h|0,_|2,_|3,_|4,_|5,_|6,_|_+7,_=>rfl,rfl,(by decide : 1 < 7)⟩
theorem dY {n : Nat} (γ : aN) : (@gW n).get γ = γ.law_k := rfl
theorem dZ {n : Nat} (γ : aN) a : (@gW n).set a γ = { γ with law_k := a } := rfl
def dU {n : Nat} : Ln (aW n) 2 (Rp.ref n) := ⟨fun γ => γ.law_hand_here,fun a γ => { γ with law_hand_here := a },fun _ => rfl,fun _ _ => rfl,fun _ _=>fun|2,h=>absurd rfl h|0,_|1,_|3,_|4,_|5,_|6,_|_+7,_=>rfl,rfl,(by decide : 2 < 7)⟩
theorem dW {n : Nat} (γ : aN) : (@dU n).get γ = γ.law_hand_here := rfl
theorem dX {n : Nat} (γ : aN) a : (@dU n).set a γ = { γ with law_hand_here := a } := rfl
def b9 {n : Nat} : Ln (aW n) 3 (Rp.tup (Rp.opt Rp.nat)) := ⟨fun γ => γ.law_f,fun a γ => { γ with law_f := a },fun _ => rfl,fun _ _ => rfl,fun _ _=>fun|3,h=>absurd rfl h|0,_|1,_|2,_|4,_|5,_|6,_|_+7,_=>rfl,rfl,(by decide : 3 < 7)⟩
theorem dR {n : Nat} (γ : aN) : (@b9 n).get γ = γ.law_f := rfl
theorem dS {n : Nat} (γ : aN) a : (@b9 n).set a γ = { γ with law_f := a } := rfl
def bK {n : Nat} : Ln (aW n) 4 (Rp.tup (Rp.opt Rp.nat)) := ⟨fun γ => γ.law_one,fun a γ => { γ with law_one := a },fun _ => rfl,fun _ _ => rfl,fun _ _=>fun|4,h=>absurd rfl h|0,_|1,_|2,_|3,_|5,_|6,_|_+7,_=>rfl,rfl,(by decide : 4 < 7)⟩
theorem d0 {n : Nat} (γ : aN) : (@bK n).get γ = γ.law_one := rfl
theorem d1 {n : Nat} (γ : aN) a : (@bK n).set a γ = { γ with law_one := a } := rfl
def bR {n : Nat} : Ln (aW n) 5 Rp.str := ⟨fun γ => γ.law_text,fun a γ => { γ with law_text := a },fun _ => rfl,fun _ _ => rfl,fun _ _=>fun|5,h=>absurd rfl h|0,_|1,_|2,_|3,_|4,_|6,_|_+7,_=>rfl,rfl,(by decide : 5 < 7)⟩
theorem d5 {n : Nat} (γ : aN) : (@bR n).get γ = γ.law_text := rfl
theorem d6 {n : Nat} (γ : aN) a : (@bR n).set a γ = { γ with law_text := a } := rfl
def gY {n : Nat} : Ln (aW n) 6 (Rp.opt Rp.nat) := ⟨fun γ => γ.law_value,fun a γ => { γ with law_value := a },fun _ => rfl,fun _ _ => rfl,fun _ _=>fun|6,h=>absurd rfl h|0,_|1,_|2,_|3,_|4,_|5,_|_+7,_=>rfl,rfl,(by decide : 6 < 7)⟩
theorem d7 {n : Nat} (γ : aN) : (@gY n).get γ = γ.law_value := rfl
theorem d8 {n : Nat} (γ : aN) a : (@gY n).set a γ = { γ with law_value := a } := rfl
theorem eRa : Frs aW 2 := ⟨fun _ => rfl,fun _ => rfl,fun _ _=>fun|2,h=>absurd rfl h|0,_|1,_|3,_|4,_|5,_|6,_|_+7,_=>rfl,fun _ _ => rfl,rfl,(by decide : 2 < 7)⟩
def bQ {k : Nat} (i8 : bW (Gf tab k)) (bJ : ∀ n,aU n (Gf tab k)) (jA : ∀ n,bF n (Gf tab k)) (i9 : ∀ n,bE n (Gf tab k)) (gU : bO (Gf tab k)) (dM : bM (Gf tab k)) (gT : bN (Gf tab k)) : PS (TX.of tab k) Top (aW 0) [] [(0,false)] [] Rp.bool :=
  (PS.cons (PC.for_ (SR.i (SR.rng (PE.ap2 Op2.nadd (PE.o (PE.nat 1)) (PE.ap2 Op2.nmin (PE.o (PE.nat 12)) (PE.ap1 (Op1.lenL Rp.int) (PE.o (PE.var gX (id rfl)))))))) [(0,false)] (id rfl) (TG.nm gW) (PS.newh (frs := aW) 2 eRa (iF i8) (PEs.cons (PE.var gX (id rfl)) (PEs.cons (PE.var gW (id rfl)) PEs.nil)) (fun n => (PS.cons (PC.set (TG.nm b9) (IE.icall (cR (jA n)) (IEs.cons (PE.i (PE.var dU (id rfl))) (IEs.cons (IE.ap2 Op2.nshl (OE.i (PE.o (PE.nat 1))) (IE.icall (bP (bJ n)) (IEs.cons (PE.i (PE.var dU (id rfl))) (IEs.cons (PE.i (PE.nat 7)) IEs.nil)))) IEs.nil)))) (PS.cons (PC.for_ (ISR.lst (IE.o (IE.lst (R := (Rp.tup (Rp.opt Rp.nat))) (IEl.cons (PE.i (PE.var b9 (id rfl))) (IEl.cons (IE.ap2 (Op2.mulT (Rp.opt Rp.nat)) (IE.o (IE.tup (R := (Rp.opt Rp.nat)) (IEl.cons (IE.icall (cM (i9 n) (Rp.opt Rp.nat)) (IEs.cons (PE.i (PE.var dU (id rfl))) (IEs.cons (PE.i (PE.lst (R := (Rp.opt Rp.nat)) (PEl.cons (PE.someO (PE.nat 0)) (PEl.cons (PE.someO (PE.nat 1)) (PEl.cons (PE.noneO Rp.nat) PEl.nil))) (id rfl))) IEs.nil))) IEl.nil) (id rfl))) (PE.i (PE.ap1 (Op1.lenT (Rp.opt Rp.nat)) (PE.o (PE.var b9 (id rfl)))))) (IEl.cons (PE.i (PE.var b9 (id rfl))) IEl.nil))) (id rfl)))) [(0,false),(1,false),(2,false),(3,false)] (id rfl) (TG.nm bK) (PS.cons (PC.set (TG.nm bR) (PE.i (PE.str ""))) (PS.cons (PC.for_ (SR.i (SR.tup (PE.o (PE.var bK (id rfl))))) [(0,false),(1,false),(2,false),(3,false),(4,false),(5,false)] (id rfl) (TG.nm gY) (PS.cons (PC.set (TG.nm bR) (PE.i (PE.ap2 Op2.addS (PE.o (PE.var bR (id rfl))) (PE.getn [((1 : Int),"1"),((0 : Int),"0")] (id rfl) (PE.var gY (id rfl)) "-")))) (PS.nil (id rfl)))) (PS.cons (PC.ifs (S' := [(0,false),(1,false),(2,false),(3,false),(4,false),(5,false)]) (OE.i (PE.o (PE.or (PE.ap1 Op1.not (PE.o (PE.call (bX dM Rp.str) (PEs.cons (PE.call (cY gU) (PEs.cons (PE.var bK (id rfl)) PEs.nil)) (PEs.cons (PE.var bR (id rfl)) PEs.nil))))) (PE.ap1 Op1.not (PE.o (PE.call (bX dM (Rp.tup (Rp.opt Rp.nat))) (PEs.cons (PE.call (cV gT) (PEs.cons (PE.var bR (id rfl)) PEs.nil)) (PEs.cons (PE.var bK (id rfl)) PEs.nil)))))))) (PS.last (PC.ret (PE.i (PE.bl false)))) (PS.nil (id rfl))) (PS.cons (PC.ifs (S' := [(0,false),(1,false),(2,false),(3,false),(4,false),(5,false)]) (OE.i (PE.o (PE.ap1 Op1.not (PE.o (PE.call (bX dM (Rp.tup (Rp.opt Rp.nat))) (PEs.cons (PE.call (cV gT) (PEs.cons (PE.call (cY gU) (PEs.cons (PE.var bK (id rfl)) PEs.nil)) PEs.nil)) (PEs.cons (PE.var bK (id rfl)) PEs.nil))))))) (PS.last (PC.ret (PE.i (PE.bl false)))) (PS.nil (id rfl))) (PS.nil (id rfl))))))) (PS.nil (id rfl))))) (fun n => by simp only [xE,vB,rD,wQ,wC,wY,vE,xZ,w8,yE,rP,vT,v7,u4,u7,sF,tH,tK,tN,tW,sU,uU,xH,wJ,w5,vK,yS,yN,yK,yH,wV,x8,xQ,xN,xK,vH,t5,uB,t8,tQ,sI,vQ,rG,vW,rK,xT,xB,yB,rS,sO,sR,rW,rZ,sC,s9,tT,tZ,wG,yV,yY,zN,zW,zQ,zZ,zT,aCa,aHa,aNa,aJa,vN,wA,rN,qE,pU,pO,qQ,qM,pW,pJ,pM,pF,qG,p7,qC,yQ,qY,qW,qU,qS,qA,qO,qK,qI,pQ,pY,zL,q7,q5,q9,pS,zB,y5,y7,uQ,uK,uG,uS,uM,uI,uE,y9,tE,s6,sL,xW,vZ,wM,zI,uO,sX,uX,pH,aLa,o8,pB,pC,o9,pE,pA,pD]) (fun n => decide_eq_true (by (try simp only [fW,fN,e9,eV,eS,fF,fD,eW,eQ,eR,eO,fA,eY,e8,fX,fJ,fI,fH,fG,eZ,fE,fC,fB,eT,eX,gG,fL,fK,fM,eU,gB,fY,fZ,fU,fR,fP,fV,fS,fQ,fO,gA,fT,eP,iG,b7,kH,b8,kG,dO,Nat.zero_add,Nat.add_zero,Nat.mul_zero,Nat.reduceAdd,Nat.reduceMul,BIG]); decide)) (id rfl) (id rfl))) (PS.last (PC.ret (PE.i (PE.bl true)))))
theorem o5a {κ : Nat} (i8 : bW (Gf tab κ)) (bJ : ∀ n,aU n (Gf tab κ)) (jA : ∀ n,bF n (Gf tab κ)) (i9 : ∀ n,bE n (Gf tab κ)) (gU : bO (Gf tab κ)) (dM : bM (Gf tab κ)) (gT : bN (Gf tab κ)) (law_script : (List Int)) (hp : kI law_script) : (bQ (k := κ) i8 bJ jA i9 gU dM gT).wp ⟨law_script,0,(),[],[],default,none⟩ (.ret (zH law_script)) := by
  simp! only [bQ,d3,d4,dY,dZ,dW,dX,dR,dS,d0,d1,d5,d6,d7,d8,cL,bZ,bY,cU,cS,cO,cN,cZ,dA,cP,cQ,cW,cX]
  have hl : law_script.length <= 63 := hp
  refine ⟨by omega,.inr (by rw [List.length_range]; omega),i6 (fun i γ => γ.law_script = law_script) rfl (fun i k γ hx hI => ?_) (fun γ hI => ?_)⟩
  · obtain ⟨hi,rfl⟩ := iRa hx
    have e : γ.law_script = law_script := hI
    have z16 := aP
    refine f3a ⟨trivial,trivial,trivial⟩ (by show k <= 63; omega) fun h => ?_
    simp! only [bQ,d3,d4,dY,dZ,dW,dX,dR,dS,d0,d1,d5,d6,d7,d8,cL,bZ,bY,cU,cS,cO,cN,cZ,dA,cP,cQ,cW,cX,iB]
    refine ⟨⟨by decide,by decide⟩,fun n hn => ?_⟩
    have h6 : n <= 6 := by have : n < 7 := hn; omega
    have t2 := mGa h6
    have tp := Nat.two_pow_pos n
    simp only [Nat.one_mul]
    refine ⟨by omega,by decide,t2,fun f hf => ⟨⟨by decide,by decide⟩,fun v hv => ?_⟩⟩
    obtain ⟨f1,f2⟩ := hf
    obtain ⟨f2,f3⟩ := f2
    refine ⟨Nat.lt_of_le_of_lt f2 (by decide),by rw [List.length_singleton]; omega,?_⟩
    generalize hL : [f,(List.replicate f.length [v]).flatten,f] = one
    have hOne : ∀ g ∈ one,g.length <= 64 /\ lenFn g.length = true /\ ∀ v ∈ g,Vl v := by
      have hln := fKa h6
      have hvf := mJa f3
      subst hL
      intro g hg
      simp only [List.mem_cons,List.not_mem_nil,or_false] at hg
      have hr : (List.replicate f.length [v]).flatten.length = f.length := by
        rw [List.length_flatten,List.map_replicate,List.sum_replicate_nat]
        exact Nat.mul_one _
      rcases hg with rfl | rfl | rfl
      · exact ⟨f2,by rw [f1]; exact hln,hvf⟩
      · refine ⟨by rw [hr]; exact f2,by rw [hr,f1]; exact hln,fun x hx => ?_⟩
        obtain ⟨l,hl1,hl2⟩ := List.mem_flatten.mp hx
        obtain ⟨_,rfl⟩ := List.mem_replicate.mp hl1
        rw [List.mem_singleton] at hl2
        subst hl2
        have hv : x ∈ [some 0,some 1,none] := hv
        simp only [List.mem_cons,List.not_mem_nil,or_false] at hv
        rcases hv with rfl | rfl | rfl
        · exact .inr (.inl rfl)
        · exact .inr (.inr rfl)
        · exact .inl rfl
      · exact ⟨f2,by rw [f1]; exact hln,hvf⟩
    refine ⟨.inl rfl,i6 (fun i γ => γ.law_script = law_script) e (fun i g γ hx hI => ?_) (fun γ hI => hI)⟩
    obtain ⟨g1,g2,g3⟩ := hOne g (List.mem_of_getElem? hx)
    refine ⟨.inl rfl,i6 (fun i γ => γ.law_script = law_script /\ γ.law_one = g /\ γ.law_text = wr (g.take i)) ⟨hI,rfl,rfl⟩ (fun j v γ hx hI => ?_) (fun γ hI => ?_)⟩
    · obtain ⟨e1,e2,e3⟩ := hI
      have hx : g[j]? = some v := hx
      have hv := g3 v (List.mem_of_getElem? hx)
      have hj : g.take (j + 1) = g.take j ++ [v] := by rw [List.take_add_one,hx]; rfl
      simp! only [bQ,d3,d4,dY,dZ,dW,dX,dR,dS,d0,d1,d5,d6,d7,d8,cL,bZ,bY,cU,cS,cO,cN,cZ,dA,cP,cQ,cW,cX]
      rw [e3,b1a hv,pFa,hj]
      refine ⟨?_,e1,e2,rfl⟩
      unfold wr
      rw [_root_.SX.S_len,_root_.SX.S_len,List.length_map,List.length_singleton]
      have := List.length_take_le' j g
      omega
    · obtain ⟨e1,e2,e3⟩ := hI
      have e3 : γ.law_text = wr g := by rw [e3]; exact congrArg wr List.take_length
      simp! only [bQ,d3,d4,dY,dZ,dW,dX,dR,dS,d0,d1,d5,d6,d7,d8,cL,bZ,bY,cU,cS,cO,cN,cZ,dA,cP,cQ,cW,cX]
      rw [e2,e3]
      have hs : eK g = wr g := rfl
      have hr := n3 g3
      rw [hs,hr]
      have sm := j1a (f := g) (by omega) (fun r x e => mIa (g3 _ (List.mem_of_getElem? e)))
      exact ⟨⟨g1,g3⟩,⟨rfl,j4a g g1 g3⟩,⟨g,rfl,g3,g2⟩,⟨rfl,sm⟩,⟨g1,g3⟩,⟨g,rfl,g3,g2⟩,⟨rfl,sm⟩,e1⟩
  · simp! only [bQ,d3,d4,dY,dZ,dW,dX,dR,dS,d0,d1,d5,d6,d7,d8,cL,bZ,bY,cU,cS,cO,cN,cZ,dA,cP,cQ,cW,cX]
    rfl
theorem law_ok : ∀ ns : List Int,ns.length <= 63 -> Gf tab 5 "law" [.lst (ns.map D.int)] [] fun d _ => d = .bl true := fun law_script hl => by
  have hp : kI law_script := hl
  exact Im.fn (T := tab) (k := 4) (γ := ⟨law_script,0,(),[],[],default,none⟩) (ds := [(Rp.lst Rp.int).enc law_script]) aZa (bQ (k := 4) (oB (0 + 3)) (fun n => eF n (0 + 3)) (fun n => oE n (0 + 2)) (fun n => oC n (0 + 2)) (oG (0 + 3)) (oD (0 + 3)) (oF (0 + 0))) rfl rfl (Sp.fits_start rfl (⟨rfl,trivial⟩) (⟨(fun _ e => nomatch e),(fun _ e => nomatch e),(fun _ e => nomatch e),(fun _ e => nomatch e),(fun _ e => nomatch e),(fun _ e => nomatch e),(fun _ e => nomatch e),trivial⟩)) (o5a (oB (0 + 3)) (fun n => eF n (0 + 3)) (fun n => oE n (0 + 2)) (fun n => oC n (0 + 2)) (oG (0 + 3)) (oD (0 + 3)) (oF (0 + 0)) law_script hp) 0 [] _ trivial (of_decide_eq_true (decide_eq_true (by (try simp only [fW,fN,e9,eV,eS,fF,fD,eW,eQ,eR,eO,fA,eY,e8,fX,fJ,fI,fH,fG,eZ,fE,fC,fB,eT,eX,gG,fL,fK,fM,eU,gB,fY,fZ,fU,fR,fP,fV,fS,fQ,fO,gA,fT,eP,iG,b7,kH,b8,kG,dO,Nat.zero_add,Nat.add_zero,Nat.mul_zero,Nat.reduceAdd,Nat.reduceMul,BIG]); decide))) (fun r _ _ h => congrArg D.bl h)
end Lw
set_option autoImplicit true
open PySem PySem.W PyProof.Rows
set_option maxHeartbeats 0 in
theorem PySem.Challenge.cw_signpoly_k75_functions_written_holds : PySem.Challenge.rw_signpoly_k75_functions_written.Holds := by
  w_on; o_law; k_head; (case hw => w_witness2)
  k_fill
  refine Sp.walk_ofG (l := PySem.Challenge.rw_signpoly_k75_functions_written) (n := 63) (k := 5) (x := "_law_script") (Tb := Lw.tb) (T := Lw.tab) (ds := Lw.dfs) rfl (by decide) rfl ⟨rfl,by decide,by decide⟩ (fun w h Y => PySem.W.kIn_of Y) Lw.chk_bind Lw.chk_all Lw.chk_fns ⟨_,List.mem_of_getElem? (i := 11) rfl,rfl,rfl,rfl⟩ ?F Lw.law_ok
  case F =>
    intro w
    refine' ⟨⟨Sp.def_mk rfl ?a0 ?l0 ?c0 ?k0,⟨Sp.def_mk rfl ?a1 ?l1 ?c1 ?k1,⟨Sp.def_mk rfl ?a2 ?l2 ?c2 ?k2,⟨Sp.def_mk rfl ?a3 ?l3 ?c3 ?k3,⟨Sp.def_mk rfl ?a4 ?l4 ?c4 ?k4,⟨Sp.def_mk rfl ?a5 ?l5 ?c5 ?k5,⟨Sp.def_mk rfl ?a6 ?l6 ?c6 ?k6,⟨Sp.def_mk rfl ?a7 ?l7 ?c7 ?k7,⟨Sp.def_mk rfl ?a8 ?l8 ?c8 ?k8,⟨Sp.def_mk rfl ?a9 ?l9 ?c9 ?k9,⟨Sp.def_mk rfl ?a10 ?l10 ?c10 ?k10,⟨Sp.def_mk rfl ?a11 ?l11 ?c11 ?k11,trivial⟩⟩⟩⟩⟩⟩⟩⟩⟩⟩⟩⟩,⟨Sp.z_mk ?z0,⟨Sp.z_mk ?z1,⟨Sp.z_mk ?z2,⟨Sp.z_mk ?z3,⟨Sp.z_mk ?z4,⟨Sp.z_mk ?z5,⟨Sp.z_mk ?z6,⟨Sp.z_mk ?z7,⟨Sp.z_mk ?z8,⟨Sp.z_mk ?z9,⟨Sp.z_mk ?z10,trivial⟩⟩⟩⟩⟩⟩⟩⟩⟩⟩⟩,⟨Sp.y_mk (i := 6) rfl ?y0,⟨Sp.y_mk (i := 0) rfl ?y1,⟨Sp.y_mk (i := 1) rfl ?y2,trivial⟩⟩⟩,trivial,trivial,trivial,⟨Sp.kd_mk (kvs := [(.inr "0",.int 0),(.inr "1",.int 1),(.inr "-",.non)]) rfl ?kd0a ?kd0b ?kd0c ?kd0d,trivial⟩,trivial⟩
    (case kd0a => k_is); (case kd0b => k_is); (case kd0c => exact ⟨⟨_,_,rfl,rfl,rfl⟩,rfl,⟨_,rfl⟩,⟨⟨_,_,rfl,rfl,rfl⟩,rfl,⟨_,rfl⟩,⟨⟨_,_,rfl,rfl,rfl⟩,rfl,rfl,trivial⟩⟩⟩); (case kd0d => first | rfl | decide)
    (case a0 => k_is); (case l0 => k_is); (case c0 => k_is); (case k0 => k_is)
    (case a1 => k_is); (case l1 => k_is); (case c1 => k_is); (case k1 => k_is)
    (case a2 => k_is); (case l2 => k_is); (case c2 => k_is); (case k2 => k_is)
    (case a3 => k_is); (case l3 => k_is); (case c3 => k_is); (case k3 => k_is)
    (case a4 => k_is); (case l4 => k_is); (case c4 => k_is); (case k4 => k_is)
    (case a5 => k_is); (case l5 => k_is); (case c5 => k_is); (case k5 => k_is)
    (case a6 => k_is); (case l6 => k_is); (case c6 => k_is); (case k6 => k_is)
    (case a7 => k_is); (case l7 => k_is); (case c7 => k_is); (case k7 => k_is)
    (case a8 => k_is); (case l8 => k_is); (case c8 => k_is); (case k8 => k_is)
    (case a9 => k_is); (case l9 => k_is); (case c9 => k_is); (case k9 => k_is)
    (case a10 => k_is); (case l10 => k_is); (case c10 => k_is); (case k10 => k_is)
    (case a11 => k_is); (case l11 => k_is); (case c11 => k_is); (case k11 => k_is)
    (case z0 => k_is)
    (case z1 => k_is)
    (case z2 => k_is)
    (case z3 => k_is)
    (case z4 => k_is)
    (case z5 => k_is)
    (case z6 => k_is)
    (case z7 => k_is)
    (case z8 => k_is)
    (case z9 => k_is)
    (case z10 => k_is)
    (case y0 => exact ⟨_,by k_is⟩)
    (case y1 => exact ⟨_,by k_is⟩)
    (case y2 => exact ⟨_,by k_is⟩)

